import PyProof.Rows.All
import Wide.All
import OpenK.AllK
import Wide.FinOn
import HandS.ForMost
import HandS.Exc
import HandS.ExcOwn
import HandS.ExcInit
import HandS.WordsExc
import HandS.TryOnly
import HandS.ExcCtx
import HandS.SuiteRaise
import HandS.RaiseFrom
import HandS.ExcInitHot
import HandS.HotCalls
import KE.DataEq
import HandS.TupAny
import HandS.IsInst
import HandS.More
import HandS.Rev
import HandS.Strs
import HandS.ExcIs
import KE.KExcIs
import HandS.SetKeys
import HandS.Defaults
import HandS.Zip
import KE.GoesMore
import KE.SortData
import HandS.SortRule
import HandS.Conv
import KE.DataCmp
import HandS.Style
import HandS.SetFor
import HandS.MakeKwOnly
import HandS.Replace
import HandS.Wide
import HandS.OwnEq
import PyProof.InstNe
import HandS.TryMany
import KE.KUnpackStar
import HandS.FStr
import HandS.Text
import HandS.RaiseMore
import HandS.CallLocal
import HandS.Flow
import HandS.NoneIn
import HandS.Iter
import KE.KItemsList
import HandS.DictTup
import KE.KDictExact
import KE.KeyNested
import KE.DatumOrd
import HandS.SortKw
import OpenK.KEqL
import HandS.DictComp
import KE.KDictSum
import KE.KDictCopyH
import HandS.DictEq
import HandS.TupMul
import KE.KDictWalk
import KE.DataFind
import HandS.Remove
import HandS.Deep
import KE.SortKeyHeap
import PyProof.CallFns
import PyProof.ReprRoads
import KE.KDictKeyed
import KE.KDictList
import KE.KDictPairs
import HandS.ListEq
import PyProof.Rows.ReprOcc
import HandS.Comp
import KE.GoesRaise
import PySem.Challenge.RW_kindsofday_k41_texts_of_no_plan
set_option Elab.async false
set_option linter.all false
set_option maxRecDepth 100000
set_option maxHeartbeats 4000000
theorem PySem.W.Fast.tw11001688354392151640 : True := trivial
theorem PySem.W.Fast.tw12135821391295867381 : True := trivial
theorem PySem.W.Fast.tw1220494993959060809 : True := trivial
theorem PySem.W.Fast.tw1245403399815622897 : True := trivial
theorem PySem.W.Fast.tw13715899042910351179 : True := trivial
theorem PySem.W.Fast.tw15905525226628021773 : True := trivial
theorem PySem.W.Fast.tw16388550602762600136 : True := trivial
theorem PySem.W.Fast.tw16677307330108510322 : True := trivial
theorem PySem.W.Fast.tw186560445847953909 : True := trivial
theorem PySem.W.Fast.tw1983195227707907500 : True := trivial
theorem PySem.W.Fast.tw2274219686281699229 : True := trivial
theorem PySem.W.Fast.tw2378795942840462619 : True := trivial
theorem PySem.W.Fast.tw2656998921246568449 : True := trivial
theorem PySem.W.Fast.tw3081021483919396261 : True := trivial
theorem PySem.W.Fast.tw3132771381088906421 : True := trivial
theorem PySem.W.Fast.tw7075229746124754511 : True := trivial
theorem PySem.W.Fast.tw7150425182869606112 : True := trivial
theorem PySem.W.Fast.tw7490012531593604289 : True := trivial
theorem PySem.W.Fast.tw8098109515514297885 : True := trivial
namespace Lv
open PySem PySem.Spec PyProof.Rows L2
inductive S where
  | d (x : PyData)
  | v (x : V)
  | t (xs : List S)
abbrev S.a (p : Addr) : S := .v (.ref p)
abbrev S.i (i : Int) : S := .d (.int i)
abbrev S.s (x : Str) : S := .d (.str x)
abbrev S.b (b : Bool) : S := .d (.bool b)
abbrev S.n : S := .d .none
inductive MO where
  | lst (xs : List S)
  | ins (C : Addr) (fs : List (Str × S))
  | dk (kvs : List (Key × S))
  | dt (kvs : List (List Key × S))
  | exc (C : Addr) (w : S)
  | own (φ : Addr → List V → Heap → Prop) (ss : List S)
abbrev Mem := Addr → Option MO
def mput (M : Mem) (p : Addr) (o : MO) : Mem := fun q => if q = p then some o else M q
def mdel (M : Mem) (p : Addr) : Mem := fun q => if q = p then none else M q
theorem mput_same {M : Mem} {p : Addr} {o : MO} : mput M p o p = some o := if_pos rfl
theorem mput_ne {M : Mem} {p q : Addr} {o : MO} (h : q ≠ p) : mput M p o q = M q := if_neg h
theorem mdel_same {M : Mem} {p : Addr} : mdel M p p = none := if_pos rfl
theorem mdel_ne {M : Mem} {p q : Addr} (h : q ≠ p) : mdel M p q = M q := if_neg h
mutual
inductive Rep (K : PySem.W.Frag) (F : Hp) : V → S → Prop
  | d {u : V} {x : PyData} : Dp K F u x → Rep K F u (.d x)
  | v {x : V} : Rep K F x (.v x)
  | t {a : Addr} {vs : List V} {xs : List S} : SqT K F a vs → RepL K F vs xs → Rep K F (.ref a) (.t xs)
inductive RepL (K : PySem.W.Frag) (F : Hp) : List V → List S → Prop
  | nil : RepL K F [] []
  | cons {u : V} {us : List V} {x : S} {xs : List S} : Rep K F u x → RepL K F us xs → RepL K F (u :: us) (x :: xs)
end
section
variable {K : PySem.W.Frag} {F F' H H' : Hp}
theorem sameT (e : Same F F') {a : Addr} {xs : List V} (h : SqT K F a xs) : SqT K F' a xs := by
  rcases h with (h | ⟨o, h⟩) | h
  · exact .inl (.inl (e _ _ h))
  · exact .inl (.inr ⟨o, e _ _ h⟩)
  · exact .inr h
mutual
theorem dpMono (e : Same F F') : ∀ (x : PyData) (u : V), Dp K F u x → Dp K F' u x
  | .none, _, h => by cases h; exact .non
  | .bool b, _, h => by cases h; exact .bl b
  | .int i, _, h => by cases h; exact .int i
  | .str x, _, h => by cases h; exact .str x
  | .list ds, _, h => by
    cases h with
    | lst hs ha => exact .lst (e.seq hs) (dpAllMono e ds _ ha)
  | .tuple ds, _, h => by
    cases h with
    | tup hs ha => exact .tup (sameT e hs) (dpAllMono e ds _ ha)
  | .dict _, _, h => by cases h
theorem dpAllMono (e : Same F F') : ∀ (xs : List PyData) (us : List V), DpAll K F us xs → DpAll K F' us xs
  | [], _, h => by cases h; exact .nil
  | x :: xs, _, h => by
    cases h with
    | cons h1 h2 => exact .cons (dpMono e x _ h1) (dpAllMono e xs _ h2)
end
mutual
theorem Rep.mono' (e : Same F F') : ∀ (x : S) (u : V), Rep K F u x → Rep K F' u x
  | .d x, _, h => by
    cases h with
    | d h => exact .d (dpMono e x _ h)
  | .v x, _, h => by cases h; exact .v
  | .t xs, _, h => by
    cases h with
    | t h1 h2 => exact .t (sameT e h1) (RepL.mono' e xs _ h2)
theorem RepL.mono' (e : Same F F') : ∀ (xs : List S) (us : List V), RepL K F us xs → RepL K F' us xs
  | [], _, h => by cases h; exact .nil
  | x :: xs, _, h => by
    cases h with
    | cons h1 h2 => exact .cons (Rep.mono' e x _ h1) (RepL.mono' e xs _ h2)
end
theorem Rep.mono (e : Same F F') {x : S} {u : V} (h : Rep K F u x) : Rep K F' u x := Rep.mono' e x u h
theorem RepL.mono (e : Same F F') {x : List S} {u : List V} (h : RepL K F u x) : RepL K F' u x := RepL.mono' e x u h
theorem RepL.length : ∀ {us : List V} {xs : List S}, RepL K F us xs → us.length = xs.length
  | _, _, .nil => rfl
  | _, _, .cons _ t => congrArg (· + 1) (RepL.length t)
theorem RepL.get : ∀ {us : List V} {xs : List S} {i : Nat} {x : S}, RepL K F us xs → xs[i]? = some x → ∃ u, us[i]? = some u ∧ Rep K F u x
  | _, _, _, _, .nil, e => by simp at e
  | _, _, 0, _, .cons r _, e => by simp at e; subst e; exact ⟨_, rfl, r⟩
  | _, _, i + 1, x, .cons _ t, e => by
    obtain ⟨u, h1, h2⟩ := RepL.get (i := i) (x := x) t (by simpa using e)
    exact ⟨u, by simpa using h1, h2⟩
theorem RepL.append : ∀ {us ws : List V} {xs ys : List S}, RepL K F us xs → RepL K F ws ys → RepL K F (us ++ ws) (xs ++ ys)
  | _, _, _, _, .nil, s => s
  | _, _, _, _, .cons r t, s => .cons r (RepL.append t s)
theorem RepL.set {x : S} {u : V} (r : Rep K F u x) : ∀ {us : List V} {xs : List S} (i : Nat), RepL K F us xs → RepL K F (us.set i u) (xs.set i x)
  | _, _, _, .nil => .nil
  | _, _, 0, .cons _ t => .cons r t
  | _, _, i + 1, .cons q t => .cons q (RepL.set r i t)
theorem RepL.take : ∀ {us : List V} {xs : List S} (n : Nat), RepL K F us xs → RepL K F (us.take n) (xs.take n)
  | _, _, 0, _ => .nil
  | _, _, _ + 1, .nil => .nil
  | _, _, n + 1, .cons r t => .cons r (RepL.take n t)
theorem RepL.drop : ∀ {us : List V} {xs : List S} (n : Nat), RepL K F us xs → RepL K F (us.drop n) (xs.drop n)
  | _, _, 0, r => r
  | _, _, _ + 1, .nil => .nil
  | _, _, n + 1, .cons _ t => RepL.drop n t
theorem RepL.dropLast {us : List V} {xs : List S} (h : RepL K F us xs) : RepL K F us.dropLast xs.dropLast := by
  rw [List.dropLast_eq_take, List.dropLast_eq_take, h.length]
  exact h.take _
theorem RepL.eraseIdx : ∀ {us : List V} {xs : List S} (i : Nat), RepL K F us xs → RepL K F (us.eraseIdx i) (xs.eraseIdx i)
  | _, _, _, .nil => .nil
  | _, _, 0, .cons _ t => t
  | _, _, i + 1, .cons q t => .cons q (RepL.eraseIdx i t)
theorem dpAll_of : ∀ {us : List V} {ds : List PyData}, RepL K F us (ds.map S.d) → DpAll K F us ds
  | _, [], h => by cases h; exact .nil
  | _, x :: xs, h => by
    cases h with
    | cons h1 h2 =>
      cases h1 with
      | d h1 => exact .cons h1 (dpAll_of h2)
theorem repL_of : ∀ {us : List V} {ds : List PyData}, DpAll K F us ds → RepL K F us (ds.map S.d)
  | _, [], h => by cases h; exact .nil
  | _, x :: xs, h => by
    cases h with
    | cons h1 h2 => exact .cons (.d h1) (repL_of h2)
theorem dpLen : ∀ {us : List V} {ds : List PyData}, DpAll K F us ds → us.length = ds.length
  | _, _, .nil => rfl
  | _, _, .cons _ t => congrArg (· + 1) (dpLen t)
end
def RepF (K : PySem.W.Frag) (F : Hp) {κ : Type} : List (κ × V) → List (κ × S) → Prop := Paired fun p q => p.1 = q.1 ∧ Rep K F p.2 q.2
section
variable {K : PySem.W.Frag} {F F' H H' : Hp} {κ : Type}
theorem RepF.mono (e : Same F F') : ∀ {l : List (κ × V)} {m : List (κ × S)}, RepF K F l m → RepF K F' l m
  | _, _, .nil => .nil
  | _, _, .cons r t => .cons ⟨r.1, r.2.mono e⟩ (RepF.mono e t)
theorem RepF.length {l : List (κ × V)} {m : List (κ × S)} (h : RepF K F l m) : l.length = m.length := Paired.length h
end
/-- an error that was caught, at a: its class, its own dict -/
def exq (a : Addr) (cls : Value) (d : Option Addr) : HO := .ext fun h => ∃ oe vs, h.get? a = some oe ∧ Zc cls d oe ∧ oe.data = .fields vs
/-- what stands at p, as the store tells it -/
def RepO (K : PySem.W.Frag) (F H : Hp) (p : Addr) (ho : HO) : MO → Prop
  | .lst xs => ∃ vs, ho = .lst vs ∧ RepL K F vs xs
  | .ins C gs => ∃ dx fs, ho = .ins C dx fs ∧ RepF K F fs gs
  | .dk l => ∃ kvs, ho = .dK kvs ∧ RepF K F kvs l
  | .dt l => ∃ kvs, ho = .dT kvs ∧ RepF K F kvs l
  | .exc C s => ∃ d v, ho = exq p (.ref C) (some d) ∧ H d = some (.xd [(("what" : Str), v)]) ∧ F d = none ∧ Rep K F v s
  | .own φ ss => ∃ vs, ho = .ext (φ p vs) ∧ RepL K F vs ss
structure Stt (K : PySem.W.Frag) (F H : Hp) (M : Mem) : Prop where
  sub : Same F H
  mem : ∀ p o, M p = some o → F p = none ∧ ∃ ho, H p = some ho ∧ RepO K F H p ho o
/-- a later state: what is frozen stays, what is neither frozen nor in the store stays -/
structure Ext (F H : Hp) (M : Mem) (F' H' : Hp) (M' : Mem) : Prop where
  ff : Same F F'
  rest : ∀ a o, H a = some o → F a = none → M a = none → H' a = some o ∧ F' a = none ∧ M' a = none
section
variable {K : PySem.W.Frag} {F F1 F2 H H1 H2 : Hp} {M M1 M2 : Mem} {p : Addr} {o : HO} {mo mo' : MO}
theorem Ext.refl : Ext F H M F H M := ⟨Same.refl F, fun _ _ h1 h2 h3 => ⟨h1, h2, h3⟩⟩
theorem Ext.trans (a : Ext F H M F1 H1 M1) (b : Ext F1 H1 M1 F2 H2 M2) : Ext F H M F2 H2 M2 :=
  ⟨a.ff.trans b.ff, fun q o h1 h2 h3 => let ⟨i1, i2, i3⟩ := a.rest q o h1 h2 h3; b.rest q o i1 i2 i3⟩
theorem Stt.free (st : Stt K F H M) (h : H p = none) : F p = none := st.sub.free h
theorem Stt.mfree (st : Stt K F H M) (h : H p = none) : M p = none := by
  cases e : M p with
  | none => rfl
  | some o =>
    obtain ⟨_, ho, h1, _⟩ := st.mem p o e
    rw [h] at h1; cases h1
theorem same_new (h : H p = none) : Same H (upd H p o) := fun b u e => by rw [upd_ne (ne_of_none e h)]; exact e
theorem RepO.frozen {F' H' : Hp} (e : Same F F') (hx : ∀ d fs, H d = some (.xd fs) → F d = none → H' d = some (.xd fs) ∧ F' d = none) {ho : HO} (h : RepO K F H p ho mo) : RepO K F' H' p ho mo := by
  cases mo with
  | lst xs => obtain ⟨vs, h1, h2⟩ := h; exact ⟨vs, h1, h2.mono e⟩
  | ins C gs => obtain ⟨dx, fs, h1, h2⟩ := h; exact ⟨dx, fs, h1, h2.mono e⟩
  | dk l => obtain ⟨kvs, h1, h2⟩ := h; exact ⟨kvs, h1, h2.mono e⟩
  | dt l => obtain ⟨kvs, h1, h2⟩ := h; exact ⟨kvs, h1, h2.mono e⟩
  | exc C s =>
    obtain ⟨d, v, h1, h2, h3, h4⟩ := h
    obtain ⟨g1, g2⟩ := hx d _ h2 h3
    exact ⟨d, v, h1, g1, g2, h4.mono e⟩
  | own φ ss => obtain ⟨vs, h1, h2⟩ := h; exact ⟨vs, h1, h2.mono e⟩
theorem RepO.notXd {ho : HO} (h : RepO K F H p ho mo) : ∀ fs, ho ≠ .xd fs := fun fs z => by
  cases mo with
  | lst xs => obtain ⟨vs, h1, _⟩ := h; rw [h1] at z; cases z
  | ins C gs => obtain ⟨dx, gs', h1, _⟩ := h; rw [h1] at z; cases z
  | dk l => obtain ⟨kvs, h1, _⟩ := h; rw [h1] at z; cases z
  | dt l => obtain ⟨kvs, h1, _⟩ := h; rw [h1] at z; cases z
  | exc C s =>
    obtain ⟨d, v, h1, _⟩ := h
    rw [h1] at z
    have z' : HO.ext _ = HO.xd fs := z
    cases z'
  | own φ ss => obtain ⟨vs, h1, _⟩ := h; rw [h1] at z; cases z
/-- a new frozen object -/
theorem Stt.newF (st : Stt K F H M) (hp : H p = none) : Stt K (upd F p o) (upd H p o) M ∧ Ext F H M (upd F p o) (upd H p o) M := by
  have hf := st.free hp
  refine ⟨⟨fun b u e => ?_, fun q mo e => ?_⟩, ⟨same_new hf, fun a u h1 h2 h3 => ⟨?_, ?_, h3⟩⟩⟩
  · by_cases hb : b = p
    · subst hb; rw [upd_same] at e ⊢; exact e
    · rw [upd_ne hb] at e ⊢; exact st.sub b u e
  · obtain ⟨h1, ho, h2, h3⟩ := st.mem q mo e
    have hq : q ≠ p := ne_of_none h2 hp
    refine ⟨by rw [upd_ne hq]; exact h1, ho, by rw [upd_ne hq]; exact h2, h3.frozen (same_new hf) fun d fs h4 h5 => ?_⟩
    have hd : d ≠ p := ne_of_none h4 hp
    exact ⟨by rw [upd_ne hd]; exact h4, by rw [upd_ne hd]; exact h5⟩
  · rw [upd_ne (ne_of_none h1 hp)]; exact h1
  · rw [upd_ne (ne_of_none h1 hp)]; exact h2
/-- a new object in the store -/
theorem Stt.newM (st : Stt K F H M) (hp : H p = none) (r : RepO K F H p o mo) : Stt K F (upd H p o) (mput M p mo) ∧ Ext F H M F (upd H p o) (mput M p mo) := by
  have hf := st.free hp
  have hx : ∀ d fs, H d = some (.xd fs) → F d = none → upd H p o d = some (.xd fs) ∧ F d = none := fun d fs h4 h5 => ⟨by rw [upd_ne (ne_of_none h4 hp)]; exact h4, h5⟩
  refine ⟨⟨fun b u e => ?_, fun q mo' e => ?_⟩, ⟨Same.refl F, fun a u h1 h2 h3 => ⟨?_, h2, ?_⟩⟩⟩
  · rw [upd_ne (ne_of_none e hf)]; exact st.sub b u e
  · by_cases hq : q = p
    · subst hq
      rw [mput_same] at e; cases e
      exact ⟨hf, o, upd_same, r.frozen (Same.refl F) hx⟩
    · rw [mput_ne hq] at e
      obtain ⟨h1, ho, h2, h3⟩ := st.mem q mo' e
      exact ⟨h1, ho, by rw [upd_ne hq]; exact h2, h3.frozen (Same.refl F) hx⟩
  · rw [upd_ne (ne_of_none h1 hp)]; exact h1
  · rw [mput_ne (ne_of_none h1 hp)]; exact h3
/-- an object of the store changes -/
theorem Stt.setM (st : Stt K F H M) (hp : M p = some mo') (r : RepO K F H p o mo) : Stt K F (upd H p o) (mput M p mo) ∧ Ext F H M F (upd H p o) (mput M p mo) := by
  obtain ⟨hf, hq0, hh, hr⟩ := st.mem p mo' hp
  have hx : ∀ d fs, H d = some (.xd fs) → F d = none → upd H p o d = some (.xd fs) ∧ F d = none := fun d fs h4 h5 => ⟨by
    rw [upd_ne fun z => ?_]
    · exact h4
    · subst z
      rw [hh] at h4
      exact hr.notXd fs (Option.some.inj h4), h5⟩
  refine ⟨⟨fun b u e => ?_, fun q mo' e => ?_⟩, ⟨Same.refl F, fun a u h1 h2 h3 => ⟨?_, h2, ?_⟩⟩⟩
  · rw [upd_ne (ne_of_none e hf)]; exact st.sub b u e
  · by_cases hq : q = p
    · subst hq
      rw [mput_same] at e; cases e
      exact ⟨hf, o, upd_same, r.frozen (Same.refl F) hx⟩
    · rw [mput_ne hq] at e
      obtain ⟨h1, ho, h2, h3⟩ := st.mem q mo' e
      exact ⟨h1, ho, by rw [upd_ne hq]; exact h2, h3.frozen (Same.refl F) hx⟩
  · rw [upd_ne fun z => ?_]
    · exact h1
    · subst z; rw [hp] at h3; cases h3
  · rw [mput_ne fun z => ?_]
    · exact h3
    · subst z; rw [hp] at h3; cases h3
/-- an object of the store is frozen -/
theorem Stt.frz (st : Stt K F H M) (hp : M p = some mo) (ho : H p = some o) : Stt K (upd F p o) H (mdel M p) ∧ Ext F H M (upd F p o) H (mdel M p) := by
  obtain ⟨hf, hq0, hh, hr⟩ := st.mem p mo hp
  have hx : ∀ d fs, H d = some (.xd fs) → F d = none → H d = some (.xd fs) ∧ upd F p o d = none := fun d fs h4 h5 => ⟨h4, by
    rw [upd_ne fun z => ?_]
    · exact h5
    · subst z
      rw [hh] at h4
      exact hr.notXd fs (Option.some.inj h4)⟩
  refine ⟨⟨fun b u e => ?_, fun q mo' e => ?_⟩, ⟨same_new hf, fun a u h1 h2 h3 => ⟨h1, ?_, ?_⟩⟩⟩
  · by_cases hb : b = p
    · subst hb; rw [upd_same] at e; rw [← e]; exact ho
    · rw [upd_ne hb] at e; exact st.sub b u e
  · have hq : q ≠ p := fun z => by subst z; rw [mdel_same] at e; cases e
    rw [mdel_ne hq] at e
    obtain ⟨h1, ho', h2, h3⟩ := st.mem q mo' e
    exact ⟨by rw [upd_ne hq]; exact h1, ho', h2, h3.frozen (same_new hf) hx⟩
  · rw [upd_ne fun z => ?_]
    · exact h2
    · subst z; rw [hp] at h3; cases h3
  · by_cases hq : a = p
    · subst hq; exact mdel_same
    · rw [mdel_ne hq]; exact h3
end
abbrev Rl := List (Option S)
structure SlR (K : PySem.W.Frag) (F : Hp) (σ : L2.St) (ρ : Rl) : Prop where
  len : σ.length = ρ.length
  at_ : ∀ (i : Nat) (s : S), ρ[i]? = some (some s) → ∃ v, σ[i]? = some (some v) ∧ Rep K F v s
section
variable {K : PySem.W.Frag} {F F' : Hp} {σ : L2.St} {ρ : Rl}
theorem SlR.mono (e : Same F F') (h : SlR K F σ ρ) : SlR K F' σ ρ := ⟨h.len, fun i s q => let ⟨v, h1, h2⟩ := h.at_ i s q; ⟨v, h1, h2.mono e⟩⟩
theorem SlR.set (h : SlR K F σ ρ) {i : Nat} {v : V} {s : S} (r : Rep K F v s) : SlR K F (σ.set i (some v)) (ρ.set i (some s)) := by
  refine ⟨by rw [List.length_set, List.length_set]; exact h.len, fun j u q => ?_⟩
  by_cases hj : j = i
  · subst hj
    by_cases hl : j < ρ.length
    · rw [List.getElem?_set_self hl] at q
      cases q
      exact ⟨v, by rw [List.getElem?_set_self (by rw [h.len]; exact hl)], r⟩
    · rw [List.getElem?_eq_none (by simpa using hl)] at q; cases q
  · rw [List.getElem?_set_ne (Ne.symm hj)] at q
    obtain ⟨w, h1, h2⟩ := h.at_ j u q
    exact ⟨w, by rw [List.getElem?_set_ne (Ne.symm hj)]; exact h1, h2⟩
theorem SlR.none (h : SlR K F σ ρ) {i : Nat} {o : Option V} : SlR K F (σ.set i o) (ρ.set i Option.none) := by
  refine ⟨by rw [List.length_set, List.length_set]; exact h.len, fun j u q => ?_⟩
  by_cases hj : j = i
  · subst hj
    by_cases hl : j < ρ.length
    · rw [List.getElem?_set_self hl] at q; cases q
    · rw [List.getElem?_eq_none (by simpa using hl)] at q; cases q
  · rw [List.getElem?_set_ne (Ne.symm hj)] at q
    obtain ⟨w, h1, h2⟩ := h.at_ j u q
    exact ⟨w, by rw [List.getElem?_set_ne (Ne.symm hj)]; exact h1, h2⟩
theorem slR_start {N : List Str} {vs : List V} {ss : List S} (r : RepL K F vs ss) : SlR K F (L2.start N vs) (ss.map some ++ List.replicate (N.length - ss.length) Option.none) := by
  unfold L2.start
  refine ⟨by simp only [List.length_append, List.length_map, List.length_replicate, r.length], fun i s q => ?_⟩
  by_cases hi : i < ss.length
  · rw [List.getElem?_append_left (by simpa using hi), List.getElem?_map] at q
    rw [List.getElem?_append_left (by simpa [r.length] using hi), List.getElem?_map]
    cases e : ss[i]? with
    | none => rw [e] at q; cases q
    | some a =>
      rw [e] at q; cases q
      obtain ⟨u, h1, h2⟩ := r.get e
      exact ⟨u, by rw [h1]; rfl, h2⟩
  · rw [List.getElem?_append_right (by simpa using hi), List.getElem?_replicate] at q
    split at q <;> cases q
end
def start2 (N : List Str) (ss : List S) : Rl := ss.map some ++ List.replicate (N.length - ss.length) none
abbrev K2 := S → Mem → Prop
/-- an error's way out: its class, what it holds -/
abbrev X2 := Addr → S → Mem → Prop
abbrev AE := Rl → Mem → K2 → X2 → Prop
abbrev AT := Rl → Mem → (Bool → Mem → Prop) → X2 → Prop
abbrev AA := Rl → Mem → (List S → Mem → Prop) → X2 → Prop
structure E2 where
  nx : Rl → Mem → Prop
  rt : K2
  bk : Rl → Mem → Prop := fun _ _ => False
  ct : Rl → Mem → Prop := fun _ _ => False
  ex : Addr → S → Rl → Mem → Prop := fun _ _ _ _ => False
abbrev AS := E2 → Rl → Mem → Prop
/-- an error with the dict at d is ours -/
structure XcAt (K : PySem.W.Frag) (F H : Hp) (M : Mem) (d : Addr) (s : S) : Prop where
  ex : ∃ v, H d = some (.xd [(("what" : Str), v)]) ∧ Rep K F v s
  nf : F d = none
  nm : M d = none
structure CvG {α β : Type} (K : PySem.W.Frag) (R : Hp → α → β → Prop) (W : WX) (σ : L2.St) (F H : Hp) (M : Mem) (P : β → Mem → Prop) (Z : X2) (Q : α → Hp → Prop) : Prop where
  q : ∀ F' H' M' v s, Ext F H M F' H' M' → Stt K F' H' M' → R F' v s → P s M' → Q v H'
  z : ∀ F' H' M' C d s, Ext F H M F' H' M' → Stt K F' H' M' → XcAt K F' H' M' d s → Z C s M' → W (.ref C) (some d) σ H'
inductive can {α β : Type} (K : PySem.W.Frag) (R : Hp → α → β → Prop) (W : WX) (A : Rl → Mem → (β → Mem → Prop) → X2 → Prop) (σ : L2.St) (H : Hp) (Q : α → Hp → Prop) : Prop
  | mk (F : Hp) (M : Mem) (ρ : Rl) (P : β → Mem → Prop) (Z : X2) (st : Stt K F H M) (sl : SlR K F σ ρ) (h : A ρ M P Z) (cv : CvG K R W σ F H M P Z Q) : can K R W A σ H Q
abbrev canE (K : PySem.W.Frag) (W : WX) (A : AE) : TE := can K (Rep K) W A
abbrev canT (K : PySem.W.Frag) (W : WX) (A : AT) : TT := can K (fun _ b c => b = c) W A
structure CvS (K : PySem.W.Frag) (W : WX) (F H : Hp) (M : Mem) (D2 : E2) (D : Ends) : Prop where
  nx : ∀ F' H' M' σ ρ, Ext F H M F' H' M' → Stt K F' H' M' → SlR K F' σ ρ → D2.nx ρ M' → D.nx σ H'
  rt : ∀ F' H' M' v s, Ext F H M F' H' M' → Stt K F' H' M' → Rep K F' v s → D2.rt s M' → D.rt v H'
  bk : ∀ F' H' M' σ ρ, Ext F H M F' H' M' → Stt K F' H' M' → SlR K F' σ ρ → D2.bk ρ M' → D.bk σ H'
  ct : ∀ F' H' M' σ ρ, Ext F H M F' H' M' → Stt K F' H' M' → SlR K F' σ ρ → D2.ct ρ M' → D.ct σ H'
  ex : ∀ F' H' M' σ ρ C d s, Ext F H M F' H' M' → Stt K F' H' M' → SlR K F' σ ρ → XcAt K F' H' M' d s → D2.ex C s ρ M' → W (.ref C) (some d) σ H'
inductive canS (K : PySem.W.Frag) (W : WX) (T : AS) (D : Ends) (σ : L2.St) (H : Hp) : Prop
  | mk (F : Hp) (M : Mem) (ρ : Rl) (D2 : E2) (st : Stt K F H M) (sl : SlR K F σ ρ) (h : T D2 ρ M) (cv : CvS K W F H M D2 D) : canS K W T D σ H
abbrev QE (X : Cx) (W : WX) (e : Expr) (A : AE) : Prop := PE X e (canE X.K W A)
abbrev QT (X : Cx) (W : WX) (e : Expr) (A : AT) : Prop := PT X e (canT X.K W A)
abbrev QS (X : Cx) (W : WX) (st : Stmt) (T : AS) : Prop := PS X st (canS X.K W T)
abbrev QSs (X : Cx) (W : WX) (st : List Stmt) (T : AS) : Prop := PSs X st (canS X.K W T)
section
variable {α β : Type} {K : PySem.W.Frag} {R : Hp → α → β → Prop} {W : WX} {σ : L2.St} {F H F1 H1 : Hp} {M M1 : Mem} {P : β → Mem → Prop} {Z : X2} {Q : α → Hp → Prop} {D2 : E2} {D : Ends}
theorem CvG.mono (e : Ext F H M F1 H1 M1) (c : CvG K R W σ F H M P Z Q) : CvG K R W σ F1 H1 M1 P Z Q :=
  ⟨fun F' H' M' v s e' => c.q F' H' M' v s (e.trans e'), fun F' H' M' C d s e' => c.z F' H' M' C d s (e.trans e')⟩
theorem CvS.mono (e : Ext F H M F1 H1 M1) (c : CvS K W F H M D2 D) : CvS K W F1 H1 M1 D2 D :=
  ⟨fun F' H' M' σ ρ e' => c.nx F' H' M' σ ρ (e.trans e'), fun F' H' M' σ ρ e' => c.rt F' H' M' σ ρ (e.trans e'), fun F' H' M' σ ρ e' => c.bk F' H' M' σ ρ (e.trans e'), fun F' H' M' σ ρ e' => c.ct F' H' M' σ ρ (e.trans e'),
    fun F' H' M' σ ρ C d s e' => c.ex F' H' M' σ ρ C d s (e.trans e')⟩
/-- the error's way of an expression within a statement -/
theorem CvS.z (c : CvS K W F H M D2 D) {ρ : Rl} (sl : SlR K F σ ρ) : ∀ F' H' M' C d s, Ext F H M F' H' M' → Stt K F' H' M' → XcAt K F' H' M' d s → D2.ex C s ρ M' → W (.ref C) (some d) σ H' :=
  fun F' H' M' C d s e st x h => c.ex F' H' M' σ ρ C d s e st (sl.mono e.ff) x h
end
theorem pe_imp {X : Cx} {e : Expr} {t t' : TE} (h : PE X e t) (i : ∀ σ H Q, t' σ H Q → t σ H Q) : PE X e t' := ⟨fun pins s σ H Q I q => h.run pins s σ H Q I (i σ H Q q)⟩
theorem pt_imp {X : Cx} {e : Expr} {t t' : TT} (h : PT X e t) (i : ∀ σ H Q, t' σ H Q → t σ H Q) : PT X e t' := ⟨fun pins s σ H Q I q => h.run pins s σ H Q I (i σ H Q q)⟩
theorem pw_imp {X : Cx} {e : Expr} {t t' : TT} (h : PW X e t) (i : ∀ σ H Q, t' σ H Q → t σ H Q) : PW X e t' := ⟨fun wh pins s σ H Q I q => h.run wh pins s σ H Q I (i σ H Q q)⟩
theorem pa_imp {X : Cx} {e : List Expr} {t t' : TA} (h : PA X e t) (i : ∀ σ H Q, t' σ H Q → t σ H Q) : PA X e t' := ⟨fun pos pins s σ H Q I q => h.run pos pins s σ H Q I (i σ H Q q)⟩
theorem ps_imp {X : Cx} {e : Stmt} {t t' : TS} (h : PS X e t) (i : ∀ D σ H, t' D σ H → t D σ H) : PS X e t' := ⟨fun pins s σ H D I q => h.run pins s σ H D I (i D σ H q)⟩
theorem pss_imp {X : Cx} {e : List Stmt} {t t' : TS} (h : PSs X e t) (i : ∀ D σ H, t' D σ H → t D σ H) : PSs X e t' := ⟨fun pins s σ H D I q => h.run pins s σ H D I (i D σ H q)⟩
abbrev Sp2 := List S → Mem → K2 → X2 → Prop
inductive lift (K : PySem.W.Frag) (sp : Sp2) (vs : List V) (H : Hp) (Q : VK) (E : XK) : Prop
  | mk (F : Hp) (M : Mem) (ss : List S) (P : K2) (Z : X2) (st : Stt K F H M) (rp : RepL K F vs ss) (h : sp ss M P Z)
    (cq : ∀ F' H' M' v s, Ext F H M F' H' M' → Stt K F' H' M' → Rep K F' v s → P s M' → Q v H')
    (cz : ∀ F' H' M' C d s, Ext F H M F' H' M' → Stt K F' H' M' → XcAt K F' H' M' d s → Z C s M' → E (.ref C) (some d) H') : lift K sp vs H Q E
/-- the context of a body -/
structure Cxt (X : Cx) (W : WX) (k : Nat) : Prop where
  tk : L2N.Takes X W
  calm : X.calm = true
  nd : X.N.Nodup
  room : Room k X.A
  pass : PassesOwn (model X.prog X.w) X.A X.env X.xe
  gd : X.A.guards = some []
section
variable {P : Program} {w : World} {K : PySem.W.Frag} {mg : Str → Option Value} {base : Heap}
/-- a def's promise where no repr is under way -/
structure FnOkG (P : Program) (w : World) (K : PySem.W.Frag) (mg : Str → Option Value) (base : Heap) (Cx0 : CXT) (k : Nat) (f : Addr) (fd : FuncData) (ps : List Str) (sp : Sp) : Prop where
  len : ∀ xs H0 Q0 E0, sp xs H0 Q0 E0 → xs.length = ps.length
  run : ∀ (A0 : Around) (envs : List Env) (t : Shared) (H0 : Hp) (ar : Args) (us : List Value) (xs : List V) (Q0 : VK) (E0 : XK), A0.guards = some [] → Room k A0 → Env0 P w K mg base A0 envs t H0 → BindsTo t fd ar (ps.zip us) → Vals xs us → sp xs H0 Q0 E0 →
    codeAny (model P w) A0 (.call (.ref f) ar) (CR Cx0 envs P w H0 t Q0 E0) t
abbrev FnOk2 (P : Program) (w : World) (K : PySem.W.Frag) (mg : Str → Option Value) (base : Heap) (k : Nat) (f : Addr) (fd : FuncData) (ps : List Str) (sp : Sp2) : Prop := FnOkG P w K mg base (L2N.CX P w) k f fd ps (lift K sp)
theorem gd_make {A0 : Around} {ar : Args} (h : A0.guards = some []) : (A0.under (.builtin "type.__call__" ar)).guards = some [] := by
  first
    | exact h
    | simpa [Around.under, Code.guards, Code.isGuard, guardIds, pushGuards] using h
/-- a def by its body (the steps are those of the library's rule for a def) -/
theorem fnG {Cx0 : CXT} {k : Nat} {f : Addr} {nm qu : Str} {pr : Arguments} {bo : List Stmt} {sc : Scope} {v1 v2 v3 v4 v5 v6 v7 : Value} {a1 a2 : Option Addr} {sl : Array (Option Value)} {N ps : List Str} {sp : Sp}
    (hl : K.lookup f = some ⟨v7, a2, .func (PySem.W.fnOf nm qu pr bo sc v1 v2 v3 v4 a1 v5 v6), sl⟩) (hq : PySem.W.codeIn K v5 qu = true) (Sc : FnScope N ps sc) (ln : ∀ xs H0 Q0 E0, sp xs H0 Q0 E0 → xs.length = ps.length)
    (body : ∀ (A0 : Around) (envs : List Env) (t : Shared) (H0 : Hp) (xs : List V) (Q0 : VK) (E0 : XK), A0.guards = some [] → Room k (A0.deeper (envOfC qu sc t.heap.objs.size f v5)) → sp xs H0 Q0 E0 →
      ∃ T, PSs (cxOf Cx0 P w K mg base N qu sc f v5 A0 envs t H0 E0) bo T ∧ T { nx := fun _ H1 => Q0 .non H1, rt := Q0 } (start N xs) H0) : FnOkG P w K mg base Cx0 (k + 1) f (PySem.W.fnOf nm qu pr bo sc v1 v2 v3 v4 a1 v5 v6) ps sp := by
  refine ⟨ln, fun A0 envs t H0 ar us xs Q0 E0 gd rm en bd rv hsp => ?_⟩
  have el := ln _ _ _ _ hsp
  have inK : K.In t.heap := en.mod.kin.keeps fun b u e => (en.bs b u e).1
  have nl : t.heap.NoLimit := en.mod.nolimit.keeps fun b u e => (en.bs b u e).1
  have kinds : ∀ y, y ∈ ps.zip us → sc.names.lookup y.1 = some .local ∨ (sc.names.lookup y.1 = some .cell ∧ ((cellsFrom (t.heap.objs.size + 1) sc.names []).lookup y.1).isSome = true) := by
    rintro ⟨n, u⟩ hy
    rcases Sc.par n (List.of_mem_zip hy).1 with z | z
    · exact .inl z
    · exact .inr ⟨z, PySem.W.cellsFrom_some _ _ _ (.inl z)⟩
  refine codeAny_call_function rm.depth (inK _ _ hl) rfl Sc.co Sc.gen rfl (PySem.W.codeRec_of inK hq) (bd _ _ _ _ (wpAny_newFunctionEnv_cells Sc.kind kinds fun en2 he t1 ic => ?_))
  subst he
  refine ⟨nl.keeps ic.toInCall.keep, codeAny_func ?_⟩
  obtain ⟨T, hT, hk⟩ := body A0 envs t H0 xs Q0 E0 gd (rm.deeper _) hsp
  have I0 : Inv (cxOf Cx0 P w K mg base N qu sc f v5 A0 envs t H0 E0) [] (start N xs) H0 t1 := inv_start Sc rm.hd en el rv ic
  refine wpAny_mono (hT.run [] t1 (start N xs) H0 _ I0 hk) (fun fl t2 hs => ?_) fun _ _ hs => hs
  have done : ∀ {σ1 : L2.St} {H1 : Hp} {v : V} {u : Value}, Inv (cxOf Cx0 P w K mg base N qu sc f v5 A0 envs t H0 E0) [] σ1 H1 t2 → RelV v u → Q0 v H1 → CE envs P w H0 t Q0 u t2 := fun {σ1 H1 v u} J r q =>
    ⟨v, H1, J.os, J.bare, J.base, J.hok, r, q⟩
  match fl, hs with
  | .ret u, ⟨v, σ1, H1, J, r, q⟩ => exact done J r q
  | .next, ⟨σ1, H1, J, q⟩ => exact done (v := V.non) (u := Value.none) J rfl q
  | .brk, ⟨_, _, _, q⟩ => exact False.elim q
  | .cont, ⟨_, _, _, q⟩ => exact False.elim q
theorem Fun.okG {x qual : Str} {st : Stmt} {f : Addr} {fd : FuncData} {N ps : List Str} {k : Nat} {sp : Sp} (Fn : Fun K x qual st f fd) (Sc : FnScope N ps (defScope st)) (ln : ∀ xs H0 Q0 E0, sp xs H0 Q0 E0 → xs.length = ps.length)
    (body : ∀ (cdv : Value) (A0 : Around) (envs : List Env) (t : Shared) (H0 : Hp) (xs : List V) (Q0 : VK) (E0 : XK), A0.guards = some [] → Room k (A0.deeper (envOfC qual (defScope st) t.heap.objs.size f cdv)) → sp xs H0 Q0 E0 →
      ∃ T, PSs (cxOf (L2N.CX P w) P w K mg base N qual (defScope st) f cdv A0 envs t H0 E0) (defBody st) T ∧ T { nx := fun _ H1 => Q0 .non H1, rt := Q0 } (start N xs) H0) : FnOkG P w K mg base (L2N.CX P w) (k + 1) f fd ps sp := by
  obtain ⟨oc, od, kV, doc, pm, an, cdv, ct, osl, rfl, lk, hcd⟩ := Fn.ex
  exact fnG lk hcd Sc ln fun A0 envs t H0 xs Q0 E0 gd rm h => body cdv A0 envs t H0 xs Q0 E0 gd rm h
/-- the context of a def's body -/
abbrev cx2 (P : Program) (w : World) (K : PySem.W.Frag) (mg : Str → Option Value) (base : Heap) (N : List Str) (qual : Str) (st : Stmt) (f : Addr) (cdv : Value) (A : Around) (outer : List Env) (s : Shared) (H : Hp) (E : XK) : Cx :=
  cxOf (L2N.CX P w) P w K mg base N qual (defScope st) f cdv A outer s H E
abbrev WD (E : XK) : WX := fun cls d _ H => E cls d H
/-- THE RULE of a def -/
theorem fn2 {x qual : Str} {st : Stmt} {f : Addr} {fd : FuncData} {N ps : List Str} {k : Nat} {sp : Sp2} (Fn : Fun K x qual st f fd) (Sc : FnScope N ps (defScope st)) (len : ∀ ss M P Z, sp ss M P Z → ss.length = ps.length)
    (hbody : ∀ (cdv : Value) (A : Around) (outer : List Env) (s : Shared) (H : Hp) (E : XK), Cxt (cx2 P w K mg base N qual st f cdv A outer s H E) (WD E) k →
      ∃ T, QSs (cx2 P w K mg base N qual st f cdv A outer s H E) (WD E) (defBody st) T ∧ ∀ ss M Pq Z, sp ss M Pq Z → T { nx := fun _ M' => Pq .n M', rt := Pq, ex := fun C s _ M' => Z C s M' } (start2 N ss) M) : FnOk2 P w K mg base (k + 1) f fd ps sp := by
  refine Fun.okG Fn Sc (fun vs H Q E h => ?_) (fun cdv A outer s H vs Q E gd hr h => ?_)
  · obtain ⟨F, M, ss, P, Z, st, rp, h, _⟩ := h
    rw [rp.length]
    exact len _ _ _ _ h
  · obtain ⟨F, M, ss, Pq, Z, stt, rp, h, cq, cz⟩ := h
    have tk : L2N.Takes (cx2 P w K mg base N qual st f cdv A outer s H E) (WD E) := L2N.takes_of rfl rfl rfl rfl
    have ps : PassesOwn (model P w) (A.deeper (envOfC qual (defScope st) s.heap.objs.size f cdv)) (envOfC qual (defScope st) s.heap.objs.size f cdv) (cx2 P w K mg base N qual st f cdv A outer s H E).xe :=
      passes_of (K := fun e s'' => L2N.CX P w outer H s E e s'') (E₁ := fun e' s'' => L2N.CX P w outer H s E e' s'') (X := cx2 P w K mg base N qual st f cdv A outer s H E) rfl
    obtain ⟨T, hT, hq⟩ := hbody cdv A outer s H E ⟨tk, rfl, Sc.nd, hr, ps, gd⟩
    refine ⟨_, hT, F, M, start2 N ss, _, stt, slR_start rp, hq ss M Pq Z h, ⟨fun F' H' M' σ ρ e st _ p => cq F' H' M' .non .n e st (.d .non) p, fun F' H' M' v s e st r p => cq F' H' M' v s e st r p, fun _ _ _ _ _ _ _ _ z => z.elim, fun _ _ _ _ _ _ _ _ z => z.elim,
      fun F' H' M' σ ρ C d s e st _ x z => cz F' H' M' C d s e st x z⟩⟩
end
theorem takesN {X : Cx} : L2N.Takes X (fun _ _ _ _ => False) := fun _ _ x => by
  obtain ⟨_, _, _, _, _, _, _, _, _, _, _, _, _, _, _, _, w⟩ := x
  exact w.elim
theorem passN {P : Program} {w : World} {X : Cx} : Passes (L2N.CX P w) X E0 := fun _ _ _ _ _ _ _ h => by
  obtain ⟨_, _, _, _, _, _, _, _, _, _, _, _, w⟩ := h
  exact w.elim
end Lv
set_option Elab.async false
set_option linter.all false
set_option maxRecDepth 100000
set_option maxHeartbeats 4000000
namespace Lv
open PySem PySem.Spec PyProof.Rows L2
/-- a branch -/
def BIf (b : Bool) (p q : Prop) : Prop := match b with
  | true => p
  | false => q
theorem byB {b : Bool} {p q : Prop} (h1 : b = true → p) (h2 : b = false → q) : BIf b p q := by
  cases b with
  | true => exact h1 rfl
  | false => exact h2 rfl
theorem byT {b : Bool} {p q : Prop} (h : b = true) (h1 : p) : BIf b p q := by subst h; exact h1
theorem byF {b : Bool} {p q : Prop} (h : b = false) (h1 : q) : BIf b p q := by subst h; exact h1
/-- all data -/
def datas : List S → Option (List PyData)
  | [] => some []
  | .d x :: r => match datas r with
    | some ds => some (x :: ds)
    | none => none
  | _ :: _ => none
theorem datas_eq : ∀ {ss : List S} {ds : List PyData}, datas ss = some ds → ss = ds.map S.d
  | [], _, h => by cases h; rfl
  | .d x :: r, ds, h => by
    unfold datas at h
    cases e : datas r with
    | none => rw [e] at h; cases h
    | some l =>
      rw [e] at h; cases h
      rw [List.map_cons, datas_eq e]
  | .v _ :: _, _, h => by cases h
  | .t _ :: _, _, h => by cases h
/-- a tuple of these -/
def mkT (ss : List S) : S := match datas ss with
  | some ds => .d (.tuple ds)
  | none => .t ss
/-- the items of what is read as a list, a tuple -/
def itemsL (M : Mem) : S → Option (List S)
  | .d (.list ds) => some (ds.map .d)
  | .v (.ref p) => match M p with
    | some (.lst xs) => some xs
    | _ => none
  | _ => none
def itemsT : S → Option (List S)
  | .d (.tuple ds) => some (ds.map .d)
  | .t xs => some xs
  | _ => none
/-- s is the data x; s is a list of these data -/
def DV (M : Mem) (s : S) (x : PyData) : Prop := s = .d x ∨ ∃ p ds, s = .a p ∧ M p = some (.lst (ds.map .d)) ∧ x = .list ds
def DL (M : Mem) (s : S) (ds : List PyData) : Prop := s = .d (.list ds) ∨ ∃ p, s = .a p ∧ M p = some (.lst (ds.map .d))
section
variable {K : PySem.W.Frag} {F H : Hp} {M : Mem} {u : V} {s : S} {xs : List S}
theorem items_sq (st : Stt K F H M) (r : Rep K F u s) (h : itemsL M s = some xs) : ∃ a vs, u = .ref a ∧ SqL K H a vs ∧ RepL K F vs xs := by
  cases r with
  | d r =>
    rename_i x
    cases x with
    | list ds =>
      cases r with
      | lst h1 h2 =>
        cases h
        exact ⟨_, _, rfl, st.sub.seq h1, repL_of h2⟩
    | _ => cases h
  | v =>
    cases u with
    | ref p =>
      unfold itemsL at h
      dsimp only at h
      cases e : M p with
      | none => rw [e] at h; cases h
      | some o =>
        rw [e] at h
        cases o with
        | lst ys =>
          cases h
          obtain ⟨_, ho, h1, vs, h2, h3⟩ := st.mem p _ e
          subst h2
          exact ⟨p, vs, rfl, SqL.of h1, h3⟩
        | _ => cases h
    | _ => cases h
  | t _ _ => cases h
theorem items_st (st : Stt K F H M) (r : Rep K F u s) (h : itemsT s = some xs) : ∃ a vs, u = .ref a ∧ SqT K H a vs ∧ RepL K F vs xs := by
  cases r with
  | d r =>
    rename_i x
    cases x with
    | tuple ds =>
      cases r with
      | tup h1 h2 =>
        cases h
        exact ⟨_, _, rfl, sameT st.sub h1, repL_of h2⟩
    | _ => cases h
  | v => cases h
  | t h1 h2 =>
    cases h
    exact ⟨_, _, rfl, sameT st.sub h1, h2⟩
theorem DV.dp (st : Stt K F H M) (r : Rep K F u s) {x : PyData} (h : DV M s x) : Dp K H u x := by
  rcases h with h | ⟨p, ds, h1, h2, h3⟩
  · subst h
    cases r with
    | d r => exact dpMono st.sub x u r
  · subst h1 h3
    cases r
    obtain ⟨_, ho, h4, vs, h5, h6⟩ := st.mem p _ h2
    subst h5
    exact .lst (SqL.of h4) (dpAllMono st.sub _ _ (dpAll_of h6))
theorem DL.dv {ds : List PyData} (h : DL M s ds) : DV M s (.list ds) := by
  rcases h with h | ⟨p, h1, h2⟩
  · exact .inl h
  · exact .inr ⟨p, ds, h1, h2, rfl⟩
theorem DL.sq (st : Stt K F H M) (r : Rep K F u s) {ds : List PyData} (h : DL M s ds) : ∃ a vs, u = .ref a ∧ SqL K H a vs ∧ DpAll K F vs ds := by
  rcases h with h | ⟨p, h1, h2⟩
  · subst h
    cases r with
    | d r =>
      cases r with
      | lst h1 h2 => exact ⟨_, _, rfl, st.sub.seq h1, h2⟩
  · subst h1
    cases r
    obtain ⟨_, ho, h4, vs, h5, h6⟩ := st.mem p _ h2
    subst h5
    exact ⟨p, vs, rfl, SqL.of h4, dpAll_of h6⟩
theorem DL.items {ds : List PyData} (h : DL M s ds) : itemsL M s = some (ds.map .d) := by
  rcases h with h | ⟨p, h1, h2⟩
  · subst h; rfl
  · subst h1
    show (match M p with | some (.lst xs) => some xs | _ => none) = _
    rw [h2]
theorem rep_mkT {a : Addr} {vs : List V} {ss : List S} (h1 : SqT K F a vs) (h2 : RepL K F vs ss) : Rep K F (.ref a) (mkT ss) := by
  unfold mkT
  cases e : datas ss with
  | none => exact .t h1 h2
  | some ds =>
    have q := datas_eq e
    subst q
    exact .d (.tup h1 (dpAll_of h2))
mutual
theorem dp_plain : ∀ (x : PyData) (u : V), Dp K F u x → x.plain = true
  | .none, _, _ => rfl
  | .bool _, _, _ => rfl
  | .int _, _, _ => rfl
  | .str _, _, _ => rfl
  | .list ds, _, h => by
    cases h with
    | lst _ h =>
      unfold PyData.plain
      exact dpAll_plain ds _ h
  | .tuple ds, _, h => by
    cases h with
    | tup _ h =>
      unfold PyData.plain
      exact dpAll_plain ds _ h
  | .dict _, _, h => by cases h
theorem dpAll_plain : ∀ (xs : List PyData) (us : List V), DpAll K F us xs → PyData.plainAll xs = true
  | [], _, _ => by unfold PyData.plainAll; rfl
  | x :: xs, _, h => by
    cases h with
    | cons h1 h2 =>
      unfold PyData.plainAll
      rw [dp_plain x _ h1, dpAll_plain xs _ h2] <;> rfl
end
end
abbrev O2 := S → S → Mem → K2 → Prop
abbrev U2 := S → Mem → K2 → Prop
abbrev C2 := List S → Mem → K2 → Prop
def qVar (i : Nat) : AE := fun ρ M P _ => match ρ[i]? with
  | some (some s) => P s M
  | _ => False
def qC (s : S) : AE := fun _ M P _ => P s M
def qOp (R : O2) (A B : AE) : AE := fun ρ M P Z => A ρ M (fun s M1 => B ρ M1 (fun t M2 => R s t M2 P) Z) Z
def qUn (R : U2) (A : AE) : AE := fun ρ M P Z => A ρ M (fun s M1 => R s M1 P) Z
def qTest (A : AE) : AT := fun ρ M P Z => A ρ M (fun s M1 => match s with
  | .d (.bool b) => P b M1
  | _ => False) Z
def qAnd (A B : AT) : AT := fun ρ M P Z => A ρ M (fun b M1 => BIf b (B ρ M1 P Z) (P false M1)) Z
def qOr (A B : AT) : AT := fun ρ M P Z => A ρ M (fun b M1 => BIf b (P true M1) (B ρ M1 P Z)) Z
def qNot (A : AT) : AT := fun ρ M P Z => A ρ M (fun b M1 => P (!b) M1) Z
def qAndV (A B : AE) : AE := fun ρ M P Z => A ρ M (fun s M1 => match s with
  | .d (.bool b) => BIf b (B ρ M1 P Z) (P (.b false) M1)
  | _ => False) Z
def qIfE (C : AT) (A B : AE) : AE := fun ρ M P Z => C ρ M (fun b M1 => BIf b (A ρ M1 P Z) (B ρ M1 P Z)) Z
def qNil : AA := fun _ M P _ => P [] M
def qCons (A : AE) (B : AA) : AA := fun ρ M P Z => A ρ M (fun s M1 => B ρ M1 (fun ss M2 => P (s :: ss) M2) Z) Z
def qTup (A : AA) : AE := fun ρ M P Z => A ρ M (fun ss M1 => P (mkT ss) M1) Z
/-- a list that will not change: all data -/
def qLst (A : AA) : AE := fun ρ M P Z => A ρ M (fun ss M1 => match datas ss with
  | some ds => P (.d (.list ds)) M1
  | none => False) Z
/-- a list in the store -/
def qLstM (A : AA) : AE := fun ρ M P Z => A ρ M (fun ss M1 => ∀ p, M1 p = none → P (.a p) (mput M1 p (.lst ss))) Z
def qCB (R : C2) (A : AA) : AE := fun ρ M P Z => A ρ M (fun ss M1 => R ss M1 P) Z
def qCall (sp : Sp2) (A : AA) : AE := fun ρ M P Z => A ρ M (fun ss M1 => sp ss M1 P Z) Z
/-- a list of the store is frozen -/
def qFrz (A : AE) : AE := fun ρ M P Z => A ρ M (fun s M1 => ∃ p ds, s = .a p ∧ M1 p = some (.lst (ds.map .d)) ∧ P (.d (.list ds)) (mdel M1 p)) Z
def qNext : AS := fun D ρ M => D.nx ρ M
def qSeq (T U : AS) : AS := fun D ρ M => T { D with nx := fun ρ M => U D ρ M } ρ M
def qDrop (A : AE) : AS := fun D ρ M => A ρ M (fun _ M1 => D.nx ρ M1) (fun C s M => D.ex C s ρ M)
def qRet (A : AE) : AS := fun D ρ M => A ρ M D.rt (fun C s M => D.ex C s ρ M)
def qIf (C : AT) (T U : AS) : AS := fun D ρ M => C ρ M (fun b M1 => BIf b (T D ρ M1) (U D ρ M1)) (fun C s M => D.ex C s ρ M)
abbrev AG := S → Rl → Mem → (Rl → Mem → Prop) → X2 → Prop
def qName (i : Nat) : AG := fun s ρ M N _ => N (ρ.set i (some s)) M
abbrev AGs := List S → Rl → Mem → (Rl → Mem → Prop) → X2 → Prop
def qGNil : AGs := fun ss ρ M N _ => match ss with
  | [] => N ρ M
  | _ => False
def qGCons (g : AG) (u : AGs) : AGs := fun ss ρ M N Z => match ss with
  | s :: r => g s ρ M (fun ρ' M' => u r ρ' M' N Z) Z
  | [] => False
def qGTup (u : AGs) : AG := fun s ρ M N Z => match itemsT s with
  | some xs => u xs ρ M N Z
  | none => False
def qAsg (A : AE) (G : AG) : AS := fun D ρ M => A ρ M (fun s M1 => G s ρ M1 D.nx (fun C s M => D.ex C s ρ M)) (fun C s M => D.ex C s ρ M)
abbrev AI := Rl → Mem → (List S → (Mem → Prop) → Mem → Prop) → X2 → Prop
def qFor (I : AI) (G : AG) (T : AS) : AS := fun D ρ M => I ρ M (fun items ok M1 => ∃ Iv : Nat → Rl → Mem → Prop, Iv 0 ρ M1 ∧ (∀ i ρ M, Iv i ρ M → ok M) ∧
  (∀ i x ρ M, items[i]? = some x → Iv i ρ M → G x ρ M (fun ρ' M' => T { D with nx := Iv (i + 1), ct := Iv (i + 1), bk := D.nx } ρ' M') (fun C s M => D.ex C s ρ M)) ∧
  ∀ ρ M, Iv items.length ρ M → D.nx ρ M) (fun C s M => D.ex C s ρ M)
def qWhile (C : AT) (T : AS) : AS := fun D ρ M => ∃ Iv : Nat → Rl → Mem → Prop, (∃ m, Iv m ρ M) ∧ ∀ m ρ M, Iv m ρ M →
  C ρ M (fun b M1 => BIf b (T { D with nx := fun ρ M => ∃ m', m' < m ∧ Iv m' ρ M, ct := fun ρ M => ∃ m', m' < m ∧ Iv m' ρ M, bk := D.nx } ρ M1) (D.nx ρ M1)) (fun C s M => D.ex C s ρ M)
def wipe2 (ρ : Rl) : List Nat → Rl
  | [] => ρ
  | i :: r => (wipe2 ρ r).set i none
abbrev noX : X2 := fun _ _ _ => False
/-- a comprehension: its end En tells what becomes of the list made -/
def qLc (En : List S → Mem → K2 → Prop) (I : AI) (G : AG) (TT : AT) (A : AE) (own : List Nat) : AE := fun ρ M P Z => I ρ M (fun items ok M1 => items.length < sizeLine ∧ ∃ Iv : Nat → List S → Mem → Prop, Iv 0 [] M1 ∧ (∀ i acc M, Iv i acc M → ok M) ∧
  (∀ i x acc M, items[i]? = some x → Iv i acc M → G x (wipe2 ρ own) M (fun ρ2 M2 => TT ρ2 M2 (fun b M3 => BIf b (A ρ2 M3 (fun s M4 => Iv (i + 1) (acc ++ [s]) M4) noX) (Iv (i + 1) acc M3)) noX) noX) ∧
  ∀ acc M, Iv items.length acc M → En acc M P) Z
def enD : List S → Mem → K2 → Prop := fun acc M P => ∃ ds, acc = ds.map S.d ∧ P (.d (.list ds)) M
def enM : List S → Mem → K2 → Prop := fun acc M P => ∀ p, M p = none → P (.a p) (mput M p (.lst acc))
def RepA (K : PySem.W.Frag) (n : Nat) (F : Hp) (vs : List V) (ss : List S) : Prop := RepL K F vs ss ∧ ss.length = n
abbrev QAr (X : Cx) (W : WX) (es : List Expr) (A : AA) : Prop := PA X es (can X.K (RepA X.K es.length) W A)
def OpS (K : PySem.W.Frag) (r : R2) (R : O2) : Prop := ∀ {F H : Hp} {M : Mem} {x y : V} {s t : S} {P : K2} {Q : VK}, Stt K F H M → Rep K F x s → Rep K F y t → R s t M P →
  (∀ F' H' M' v u, Ext F H M F' H' M' → Stt K F' H' M' → Rep K F' v u → P u M' → Q v H') → r x y H Q
def UnS (K : PySem.W.Frag) (r : V → Hp → VK → Prop) (R : U2) : Prop := ∀ {F H : Hp} {M : Mem} {x : V} {s : S} {P : K2} {Q : VK}, Stt K F H M → Rep K F x s → R s M P →
  (∀ F' H' M' v u, Ext F H M F' H' M' → Stt K F' H' M' → Rep K F' v u → P u M' → Q v H') → r x H Q
def CallS (K : PySem.W.Frag) (r : List V → Hp → VK → Prop) (R : C2) : Prop := ∀ {F H : Hp} {M : Mem} {xs : List V} {ss : List S} {P : K2} {Q : VK}, Stt K F H M → RepL K F xs ss → R ss M P →
  (∀ F' H' M' v u, Ext F H M F' H' M' → Stt K F' H' M' → Rep K F' v u → P u M' → Q v H') → r xs H Q
inductive canG (K : PySem.W.Frag) (W : WX) (G : AG) (vs : List Nat) (v : V) (σ : L2.St) (H : Hp) (Q : L2.St → Hp → Prop) : Prop
  | mk (F : Hp) (M : Mem) (s : S) (ρ : Rl) (N : Rl → Mem → Prop) (Z : X2) (st : Stt K F H M) (sl : SlR K F σ ρ) (r : Rep K F v s) (h : G s ρ M N Z)
    (cv : ∀ F' H' M' σ' ρ', Ext F H M F' H' M' → Stt K F' H' M' → SlR K F' σ' ρ' → wipe σ' vs = wipe σ vs → N ρ' M' → Q σ' H') : canG K W G vs v σ H Q
inductive canGs (K : PySem.W.Frag) (W : WX) (G : AGs) (vs : List Nat) (us : List V) (σ : L2.St) (H : Hp) (Q : L2.St → Hp → Prop) : Prop
  | mk (F : Hp) (M : Mem) (ss : List S) (ρ : Rl) (N : Rl → Mem → Prop) (Z : X2) (st : Stt K F H M) (sl : SlR K F σ ρ) (r : RepL K F us ss) (h : G ss ρ M N Z)
    (cv : ∀ F' H' M' σ' ρ', Ext F H M F' H' M' → Stt K F' H' M' → SlR K F' σ' ρ' → wipe σ' vs = wipe σ vs → N ρ' M' → Q σ' H') : canGs K W G vs us σ H Q
/-- targets that raise nothing; vs: the slots that they store in -/
abbrev QG (X : Cx) (W : WX) (tg : Expr) (G : AG) (vs : List Nat) : Prop := PG X tg (canG X.K W G vs)
abbrev QGs (X : Cx) (W : WX) (tgs : List Expr) (G : AGs) (vs : List Nat) : Prop := PGs X tgs (canGs X.K W G vs)
structure ItOk (K : PySem.W.Frag) (J : It) (items : List S) (ok : Mem → Prop) (F0 : Hp) : Prop where
  go : ∀ i F H M x, Same F0 F → Stt K F H M → ok M → items[i]? = some x → J.go i H ∧ ∀ v H', J.yld i H v H' → ∃ F', Ext F H M F' H' M ∧ Stt K F' H' M ∧ Rep K F' v x
  stop : ∀ F H M, Same F0 F → Stt K F H M → ok M → J.stop items.length H
inductive canI (K : PySem.W.Frag) (W : WX) (I : AI) (σ : L2.St) (H : Hp) (R : It → Hp → Prop) : Prop
  | mk (F : Hp) (M : Mem) (ρ : Rl) (Pk : List S → (Mem → Prop) → Mem → Prop) (Z : X2) (st : Stt K F H M) (sl : SlR K F σ ρ) (h : I ρ M Pk Z)
    (cq : ∀ F' H' M' J items ok, Ext F H M F' H' M' → Stt K F' H' M' → ItOk K J items ok F' → Pk items ok M' → R J H')
    (cz : ∀ F' H' M' C d s, Ext F H M F' H' M' → Stt K F' H' M' → XcAt K F' H' M' d s → Z C s M' → W (.ref C) (some d) σ H') : canI K W I σ H R
abbrev QI (X : Cx) (W : WX) (tg iter : Expr) (I : AI) : Prop := PI X tg iter (canI X.K W I)
theorem pi_imp {X : Cx} {tg it : Expr} {t t' : TI} (h : PI X tg it t) (i : ∀ σ H Q, t' σ H Q → t σ H Q) : PI X tg it t' := ⟨fun pins s σ H Q I q => h.run pins s σ H Q I (i σ H Q q)⟩
theorem pg_imp {X : Cx} {tg : Expr} {t t' : TG} (h : PG X tg t) (i : ∀ v σ H Q, t' v σ H Q → t v σ H Q) : PG X tg t' := ⟨fun pins s σ H x v Q I r q => h.run pins s σ H x v Q I r (i x σ H Q q)⟩
theorem pgs_imp {X : Cx} {tg : List Expr} {t t' : TGs} (h : PGs X tg t) (i : ∀ v σ H Q, t' v σ H Q → t v σ H Q) : PGs X tg t' := ⟨fun pins s σ H x v Q I r q => h.run pins s σ H x v Q I r (i x σ H Q q)⟩
theorem OpR.or {X : Cx} {f : Value → Value → Sem Value} {r r' : R2} (h : OpR X f r) (h' : OpR X f r') : OpR X f (fun x y H Q => r x y H Q ∨ r' x y H Q) := by
  intro pins s σ H x y v u Q I rx ry q
  rcases q with q | q
  · exact h pins s σ H x y v u Q I rx ry q
  · exact h' pins s σ H x y v u Q I rx ry q
theorem CallR.or {X : Cx} {f : Value} {r r' : List V → Hp → VK → Prop} (h : CallR X f r) (h' : CallR X f r') : CallR X f (fun x H Q => r x H Q ∨ r' x H Q) := by
  intro pins s σ H x v Q I rx q
  rcases q with q | q
  · exact h pins s σ H x v Q I rx q
  · exact h' pins s σ H x v Q I rx q
section
variable {X : Cx} {W : WX} {k : Nat} {e a b c : Expr} {es : List Expr} {pos : Pos} {A B : AE} {As : AA} {C T : AT} {s : S}
theorem qe_var {i : Nat} {x : Str} (h : PE X (.Name x pos) (tVar i)) : QE X W (.Name x pos) (qVar i) := pe_imp h (by
  rintro σ H Q ⟨F, M, ρ, P, Z, st, sl, h, cv⟩
  unfold qVar at h
  split at h
  · rename_i s e
    obtain ⟨v, hv, rp⟩ := sl.at_ i s e
    exact ⟨v, hv, cv.q F H M v s Ext.refl st rp h⟩
  · exact h.elim)
theorem qv (i : Nat) {x : Str} (hN : X.N[i]? = some x := by rfl) (hv : Vis X.env.scope x := by first | exact Or.inl rfl | exact Or.inr (Or.inl rfl) | exact Or.inr (Or.inr rfl)) (hd : (x == ("__debug__" : Str)) = false := by decide)
    (hcd : (x == ("__classdict__" : Str)) = false := by decide) : QE X W (.Name x pos) (qVar i) := qe_var (pe_var hN hv hd hcd)
theorem qe_c {v : V} (h : PE X e (tC v)) (r : ∀ F, Rep X.K F v s) : QE X W e (qC s) := pe_imp h (by rintro σ H Q ⟨F, M, ρ, P, Z, st, sl, h, cv⟩; exact cv.q F H M v s Ext.refl st (r F) h)
theorem qe_int {i : Int} {j} : QE X W (.Constant (.int i) j pos) (qC (.i i)) := qe_c pe_int fun _ => .d (.int i)
theorem qe_bl {i : Bool} {j} : QE X W (.Constant (.bool i) j pos) (qC (.b i)) := qe_c pe_bl fun _ => .d (.bl i)
theorem qe_str {i : Str} {j} : QE X W (.Constant (.str i) j pos) (qC (.s i)) := qe_c pe_str fun _ => .d (.str i)
theorem qe_non {j} : QE X W (.Constant .none j pos) (qC .n) := qe_c pe_non fun _ => .d .non
theorem qe_glob {x : Str} {v : V} {u : Value} (hg : Gl X x) (hm : X.mg x = some u) (r : RelV v u) (rp : ∀ F, Rep X.K F v s) (hd : (x == ("__debug__" : Str)) = false := by decide) : QE X W (.Name x pos) (qC s) := qe_c (pe_glob hg hm r hd) rp
theorem qe_bltn {x : Str} {v : V} {u : Value} (hg : Gl X x) (hm : X.mg x = none) (hv : bootBuiltins x = some u) (r : RelV v u) (hn : x ≠ "__name__" := by decide) (hd : (x == ("__debug__" : Str)) = false := by decide) : QE X W (.Name x pos) (qC (.v v)) :=
  qe_c (pe_bltn hg hm hv r hn hd) fun _ => .v
theorem op_sim {r : R2} {R : O2} (hs : OpS X.K r R) {σ : L2.St} {H : Hp} {Q : VK} (h : canE X.K W (qOp R A B) σ H Q) : tOp r (canE X.K W A) (canE X.K W B) σ H Q := by
  obtain ⟨F, M, ρ, P, Z, st, sl, h, cv⟩ := h
  refine ⟨F, M, ρ, _, Z, st, sl, h, ⟨fun F1 H1 M1 x s e1 st1 r1 h1 => ?_, cv.z⟩⟩
  refine ⟨F1, M1, ρ, _, Z, st1, sl.mono e1.ff, h1, ⟨fun F2 H2 M2 y t e2 st2 r2 h2 => ?_, (cv.mono e1).z⟩⟩
  exact hs st2 (r1.mono e2.ff) r2 h2 fun F3 H3 M3 v u e3 => cv.q F3 H3 M3 v u (e1.trans (e2.trans e3))
theorem un_sim {r : V → Hp → VK → Prop} {R : U2} (hs : UnS X.K r R) {σ : L2.St} {H : Hp} {Q : VK} (h : canE X.K W (qUn R A) σ H Q) : tUn r (canE X.K W A) σ H Q := by
  obtain ⟨F, M, ρ, P, Z, st, sl, h, cv⟩ := h
  refine ⟨F, M, ρ, _, Z, st, sl, h, ⟨fun F1 H1 M1 x s e1 st1 r1 h1 => ?_, cv.z⟩⟩
  exact hs st1 r1 h1 fun F3 H3 M3 v u e3 => cv.q F3 H3 M3 v u (e1.trans e3)
theorem qe_op {op : Operator} {r : R2} {R : O2} (ho : OpR X (binaryOp op) r) (hs : OpS X.K r R) (ha : QE X W a A) (hb : QE X W b B) : QE X W (.BinOp a op b pos) (qOp R A B) := pe_imp (pe_op ho ha hb) fun σ H Q h => op_sim hs h
theorem qe_un {op : UnaryOp} {r : V → Hp → VK → Prop} {R : U2} (ho : UnR X (unaryOp op) r) (hs : UnS X.K r R) (ha : QE X W a A) : QE X W (.UnaryOp op a pos) (qUn R A) := pe_imp (pe_un ho ha) fun σ H Q h => un_sim hs h
theorem qe_cmp {op : CmpOp} {r : R2} {R : O2} (ho : OpR X (compareOp op) r) (hs : OpS X.K r R) (ha : QE X W a A) (hb : QE X W b B) (hm : behindInMarks op b = false) : QE X W (.Compare a [op] [b] pos) (qOp R A B) := pe_imp (pe_cmpR ho ha hb hm) fun σ H Q h => op_sim hs h
theorem test_sim {t : TE} {σ : L2.St} {H : Hp} {Q : Bool → Hp → Prop} (hs : ∀ σ H Q, canE X.K W A σ H Q → t σ H Q) (h : canT X.K W (qTest A) σ H Q) : tTest t σ H Q := by
  obtain ⟨F, M, ρ, P, Z, st, sl, h, cv⟩ := h
  refine hs _ _ _ ⟨F, M, ρ, _, Z, st, sl, h, ⟨fun F1 H1 M1 x s e1 st1 r1 h1 => ?_, cv.z⟩⟩
  cases r1 with
  | d r1 =>
    rename_i y
    cases y with
    | bool b =>
      cases r1
      exact ⟨b, rfl, cv.q F1 H1 M1 b b e1 st1 rfl h1⟩
    | _ => exact (show False from h1).elim
  | v => exact (show False from h1).elim
  | t _ _ => exact (show False from h1).elim
theorem qt_cmp {op : CmpOp} {r : R2} {R : O2} (ho : OpR X (compareOp op) r) (hs : OpS X.K r R) (ha : QE X W a A) (hb : QE X W b B) (hm : behindInMarks op b = false) : QT X W (.Compare a [op] [b] pos) (qTest (qOp R A B)) :=
  pt_imp (pt_cmpR ho ha hb hm) fun σ H Q h => test_sim (fun _ _ _ h => op_sim hs h) h
theorem qt_val (h : QE X W e A) (he : ∀ whole, isTrue e X.env whole = (do let v ← whole; standAt e.pos; holding [v] (truthy v)) := by intro _; rfl) : QT X W e (qTest A) := pt_imp (pt_val h he) fun σ H Q h => test_sim (fun _ _ _ h => h) h
abbrev QW (X : Cx) (W : WX) (e : Expr) (A : AT) : Prop := PW X e (canT X.K W A)
theorem qw_and1 (h : QT X W a C) : QW X W (.BoolOp .And [a] pos) C := pw_and1 h
theorem qw_or1 (h : QT X W a C) : QW X W (.BoolOp .Or [a] pos) C := pw_or1 h
theorem and_sim {t u : TT} {σ : L2.St} {H : Hp} {Q : Bool → Hp → Prop} (h : canT X.K W (qAnd C T) σ H Q) : tAnd (canT X.K W C) (canT X.K W T) σ H Q := by
  obtain ⟨F, M, ρ, P, Z, st, sl, h, cv⟩ := h
  refine ⟨F, M, ρ, _, Z, st, sl, h, ⟨fun F1 H1 M1 x s e1 st1 r1 h1 => ?_, cv.z⟩⟩
  subst r1
  cases x with
  | true => exact iteT ⟨F1, M1, ρ, P, Z, st1, sl.mono e1.ff, h1, cv.mono e1⟩
  | false => exact iteF (cv.q F1 H1 M1 false false e1 st1 rfl h1)
theorem or_sim {t u : TT} {σ : L2.St} {H : Hp} {Q : Bool → Hp → Prop} (h : canT X.K W (qOr C T) σ H Q) : tOr (canT X.K W C) (canT X.K W T) σ H Q := by
  obtain ⟨F, M, ρ, P, Z, st, sl, h, cv⟩ := h
  refine ⟨F, M, ρ, _, Z, st, sl, h, ⟨fun F1 H1 M1 x s e1 st1 r1 h1 => ?_, cv.z⟩⟩
  subst r1
  cases x with
  | false => exact iteF ⟨F1, M1, ρ, P, Z, st1, sl.mono e1.ff, h1, cv.mono e1⟩
  | true => exact iteT (cv.q F1 H1 M1 true true e1 st1 rfl h1)
theorem qw_and (ha : QT X W a C) (hb : QW X W (.BoolOp .And (b :: es) pos) T) : QW X W (.BoolOp .And (a :: b :: es) pos) (qAnd C T) := pw_imp (pw_and ha hb) fun σ H Q h => and_sim (t := fun _ _ _ => True) (u := fun _ _ _ => True) h
theorem qw_or (ha : QT X W a C) (hb : QW X W (.BoolOp .Or (b :: es) pos) T) : QW X W (.BoolOp .Or (a :: b :: es) pos) (qOr C T) := pw_imp (pw_or ha hb) fun σ H Q h => or_sim (t := fun _ _ _ => True) (u := fun _ _ _ => True) h
theorem qt_w (h : QW X W e C) : QT X W e C := h.pt
theorem qt_not (ha : QT X W a C) : QT X W (.UnaryOp .Not a pos) (qNot C) := pt_imp (pt_not ha) (by
      rintro σ H Q ⟨F, M, ρ, P, Z, st, sl, h, cv⟩
      exact
          ⟨F, M, ρ, _, Z, st, sl, h, ⟨fun F1 H1 M1 x s e1 st1 r1 h1 => by subst r1; exact cv.q F1 H1 M1 _ _ e1 st1 rfl h1, cv.z⟩⟩)
theorem bool_of {F H : Hp} {M : Mem} {u : V} {p q : Bool → Prop} (r : Rep X.K F u s) (h : match (generalizing := false) s with | .d (.bool b) => p b | _ => False) : ∃ b, u = .bl b ∧ s = .b b ∧ p b := by
  cases r with
  | d r =>
    rename_i y
    cases y with
    | bool b => cases r; exact ⟨b, rfl, rfl, h⟩
    | _ => exact (show False from h).elim
  | v => exact (show False from h).elim
  | t _ _ => exact (show False from h).elim
theorem qe_one {op} (h : QE X W a A) : QE X W (.BoolOp op [a] pos) A := pe_one h
theorem qe_and (ha : QE X W a A) (hb : QE X W (.BoolOp .And (b :: es) pos) B) : QE X W (.BoolOp .And (a :: b :: es) pos) (qAndV A B) := pe_imp (pe_and ha hb) (by
  rintro σ H Q ⟨F, M, ρ, P, Z, st, sl, h, cv⟩
  refine ⟨F, M, ρ, _, Z, st, sl, h, ⟨fun F1 H1 M1 x s e1 st1 r1 h1 => ?_, cv.z⟩⟩
  obtain ⟨b, rfl, rfl, h1⟩ := bool_of (H := H) (M := M) (q := fun _ => True) r1 h1
  refine ⟨b, rfl, ?_⟩
  cases b with
  | true => exact iteT ⟨F1, M1, ρ, P, Z, st1, sl.mono e1.ff, h1, cv.mono e1⟩
  | false => exact iteF (cv.q F1 H1 M1 _ _ e1 st1 (.d (.bl false)) h1))
theorem qe_ifE (hc : QT X W c C) (ha : QE X W a A) (hb : QE X W b B) : QE X W (.IfExp c a b pos) (qIfE C A B) := pe_imp (pe_ifExp hc ha hb) (by
  rintro σ H Q ⟨F, M, ρ, P, Z, st, sl, h, cv⟩
  refine ⟨F, M, ρ, _, Z, st, sl, h, ⟨fun F1 H1 M1 x s e1 st1 r1 h1 => ?_, cv.z⟩⟩
  subst r1
  cases x with
  | true => exact iteT ⟨F1, M1, ρ, P, Z, st1, sl.mono e1.ff, h1, cv.mono e1⟩
  | false => exact iteF ⟨F1, M1, ρ, P, Z, st1, sl.mono e1.ff, h1, cv.mono e1⟩)
theorem qa_nil : QAr X W [] qNil := pa_imp pa_nil (by rintro σ H Q ⟨F, M, ρ, P, Z, st, sl, h, cv⟩; exact cv.q F H M [] [] Ext.refl st ⟨.nil, rfl⟩ h)
theorem qa_cons (ha : QE X W e A) (hr : QAr X W es As) (hs : starEach (e :: es) X.env = (false, eval e X.env) :: starEach es X.env := by rfl) : QAr X W (e :: es) (qCons A As) := pa_imp (pa_cons ha hr hs) (by
  rintro σ H Q ⟨F, M, ρ, P, Z, st, sl, h, cv⟩
  refine ⟨F, M, ρ, _, Z, st, sl, h, ⟨fun F1 H1 M1 x s e1 st1 r1 h1 => ?_, cv.z⟩⟩
  refine ⟨F1, M1, ρ, _, Z, st1, sl.mono e1.ff, h1, ⟨fun F2 H2 M2 xs ss e2 st2 r2 h2 => ?_, (cv.mono e1).z⟩⟩
  exact cv.q F2 H2 M2 (x :: xs) (s :: ss) (e1.trans e2) st2 ⟨.cons (r1.mono e2.ff) r2.1, congrArg (· + 1) r2.2⟩ h2)
theorem thousand {n : Nat} (h : n ≤ 1000) : n ≤ sizeLine := Nat.le_trans h (by decide)
theorem qe_tup {x1} (h : QAr X W es As) (hz : es.length ≤ 1000 := by decide) : QE X W (.Tuple es x1 pos) (qTup As) := pe_imp (pe_tup h) (by
  rintro σ H Q ⟨F, M, ρ, P, Z, st, sl, h, cv⟩
  refine ⟨F, M, ρ, _, Z, st, sl, h, ⟨fun F1 H1 M1 xs ss e1 st1 r1 h1 => ?_, cv.z⟩⟩
  refine ⟨by rw [r1.1.length, r1.2]; exact thousand hz, fun p hp => ?_⟩
  obtain ⟨st2, e2⟩ := st1.newF (o := .tup xs) hp
  exact cv.q _ _ _ _ _ (e1.trans e2) st2 (rep_mkT (.inl (.inl upd_same)) (r1.1.mono e2.ff)) h1)
theorem qe_lst (h : QAr X W es As) (hz : es.length ≤ 1000 := by decide) : QE X W (.List es pos) (qLst As) := pe_imp (pe_lst h) (by
  rintro σ H Q ⟨F, M, ρ, P, Z, st, sl, h, cv⟩
  refine ⟨F, M, ρ, _, Z, st, sl, h, ⟨fun F1 H1 M1 xs ss e1 st1 r1 h1 => ?_, cv.z⟩⟩
  refine ⟨by rw [r1.1.length, r1.2]; exact thousand hz, fun p hp => ?_⟩
  obtain ⟨st2, e2⟩ := st1.newF (o := .lst xs) hp
  cases ed : datas ss with
  | none => rw [ed] at h1; exact (show False from h1).elim
  | some ds =>
    rw [ed] at h1
    have q := datas_eq ed
    subst q
    exact cv.q _ _ _ _ _ (e1.trans e2) st2 (.d (.lst (.inl (.inl upd_same)) (dpAll_of (r1.1.mono e2.ff)))) h1)
theorem qe_lstM (h : QAr X W es As) (hz : es.length ≤ 1000 := by decide) : QE X W (.List es pos) (qLstM As) := pe_imp (pe_lst h) (by
  rintro σ H Q ⟨F, M, ρ, P, Z, st, sl, h, cv⟩
  refine ⟨F, M, ρ, _, Z, st, sl, h, ⟨fun F1 H1 M1 xs ss e1 st1 r1 h1 => ?_, cv.z⟩⟩
  refine ⟨by rw [r1.1.length, r1.2]; exact thousand hz, fun p hp => ?_⟩
  obtain ⟨st2, e2⟩ := st1.newM (o := .lst xs) (mo := .lst ss) hp ⟨xs, rfl, r1.1⟩
  exact cv.q _ _ _ _ _ (e1.trans e2) st2 .v (h1 p (st1.mfree hp)))
theorem qe_frz (h : QE X W e A) : QE X W e (qFrz A) := pe_imp h (by
  rintro σ H Q ⟨F, M, ρ, P, Z, st, sl, h, cv⟩
  refine ⟨F, M, ρ, _, Z, st, sl, h, ⟨fun F1 H1 M1 x s e1 st1 r1 h1 => ?_, cv.z⟩⟩
  obtain ⟨p, ds, rfl, hm, h1⟩ := h1
  cases r1
  obtain ⟨_, ho, hh, vs, rfl, hr⟩ := st1.mem p _ hm
  obtain ⟨st2, e2⟩ := st1.frz hm hh
  exact cv.q _ _ _ _ _ (e1.trans e2) st2 (.d (.lst (.inl (.inl upd_same)) (dpAll_of (hr.mono e2.ff)))) h1)
theorem cb_sim {r : List V → Hp → VK → Prop} {R : C2} {n : Nat} (hs : CallS X.K r R) {σ : L2.St} {H : Hp} {Q : VK} (h : canE X.K W (qCB R As) σ H Q) : tCB r (can X.K (RepA X.K n) W As) σ H Q := by
  obtain ⟨F, M, ρ, P, Z, st, sl, h, cv⟩ := h
  refine ⟨F, M, ρ, _, Z, st, sl, h, ⟨fun F1 H1 M1 x s e1 st1 r1 h1 => ?_, cv.z⟩⟩
  exact hs st1 r1.1 h1 fun F3 H3 M3 v u e3 => cv.q F3 H3 M3 v u (e1.trans e3)
theorem qe_callB {r : List V → Hp → VK → Prop} {R : C2} {x : Str} {id : String} {p : Pos} (hc : CallR X (.builtin id) r) (hs : CallS X.K r R) (hg : Gl X x) (hm : X.mg x = none) (hv : bootBuiltins x = some (.builtin id)) (ha : QAr X W (e :: es) As) (hn : x ≠ "__name__" := by decide) (hdb : (x == ("__debug__" : Str)) = false := by decide)
    (he : starEach (e :: es) X.env = (false, eval e X.env) :: starEach es X.env := by rfl) (hpl : (backTo pos (starEach es X.env)).any (·.1) = false := by rfl) : QE X W (.Call (.Name x p) (e :: es) [] pos) (qCB R As) :=
  pe_imp (pe_callB hc hg hm hv ha hn hdb he hpl) fun σ H Q h => cb_sim hs h
theorem qe_callTy {r : List V → Hp → VK → Prop} {R : C2} {x : Str} {id : String} {p : Pos} (hc : CallR X (.type id) r) (hs : CallS X.K r R) (hg : Gl X x) (hm : X.mg x = none) (hv : bootBuiltins x = some (.type id)) (ha : QAr X W (e :: es) As) (hn : x ≠ "__name__" := by decide) (hdb : (x == ("__debug__" : Str)) = false := by decide)
    (he : starEach (e :: es) X.env = (false, eval e X.env) :: starEach es X.env := by rfl) (hpl : (backTo pos (starEach es X.env)).any (·.1) = false := by rfl) : QE X W (.Call (.Name x p) (e :: es) [] pos) (qCB R As) :=
  pe_imp (pe_callTy hc hg hm hv ha hn hdb he hpl) fun σ H Q h => cb_sim hs h
theorem CallS.or {r r' : List V → Hp → VK → Prop} {R R' : C2} {K : PySem.W.Frag} (h : CallS K r R) (h' : CallS K r' R') : CallS K (fun x H Q => r x H Q ∨ r' x H Q) (fun ss M P => R ss M P ∨ R' ss M P) := by
  intro F H M xs ss P Q st rp h1 q
  rcases h1 with h1 | h1
  · exact .inl (h st rp h1 q)
  · exact .inr (h' st rp h1 q)
theorem run_fnG {f : Addr} {fd : FuncData} {ps : List Str} {sp : Sp} {Cx0 : CXT} {En : L2.St → XK} {pins : List (Addr × Obj)} {σ : L2.St} {H : Hp} {t : Shared} {Q : VK} {us : List Value} {xs : List V} (Fo : FnOkG X.prog X.w X.K X.mg X.base Cx0 k f fd ps sp) (gd : X.A.guards = some []) (rm : Room k X.A)
    (bd : Binds X.K fd ps []) (hx : PassesAt Cx0 X σ (En σ)) (I : Inv X pins σ H t) (rv : Vals xs us) (h : sp xs H Q (En σ)) : wpAny (model X.prog X.w) X.A (call (.ref f) us) (EP X pins σ Q) X.xe t := by
  have el : us.length = ps.length := by rw [← rv.length]; exact Fo.len _ _ _ _ h
  have b2 := bd t us I.kIn (by rw [List.append_nil]; exact el)
  rw [List.append_nil] at b2
  refine wpAny_call (codeAny_mono (Fo.run X.A X.stack t H ⟨us, []⟩ us xs Q (En σ) gd rm I.env0 b2 rv h) fun r t2 hq => ?_)
  match r, hq with
  | .error e, hq => exact hx pins H t e t2 I hq
  | .ok (.ret u), hq => exact I.after hq
  | .ok .next, hq => exact False.elim hq
  | .ok .brk, hq => exact False.elim hq
  | .ok .cont, hq => exact False.elim hq
structure Cal (P : Program) (w : World) (K : PySem.W.Frag) (mg : Str → Option Value) (base : Heap) (k : Nat) (x : Str) (ps : List Str) (sp : Sp2) : Prop where
  ex : ∃ f fd, FnOk2 P w K mg base k f fd ps sp ∧ mg x = some (.ref f) ∧ PySem.W.keepIn K (.ref f) = true ∧ Binds K fd ps []
theorem call_sim {sp : Sp2} {n : Nat} {σ : L2.St} {H : Hp} {Q : VK} (h : canE X.K W (qCall sp As) σ H Q) : tCallS (lift X.K sp) (WE W) (can X.K (RepA X.K n) W As) σ H Q := by
  obtain ⟨F, M, ρ, P, Z, st, sl, h, cv⟩ := h
  refine ⟨F, M, ρ, _, Z, st, sl, h, ⟨fun F1 H1 M1 x s e1 st1 r1 h1 => ?_, cv.z⟩⟩
  exact ⟨F1, M1, s, P, Z, st1, r1.1, h1, (cv.mono e1).q, (cv.mono e1).z⟩
theorem qe_call {k' : Nat} {x : Str} {ps : List Str} {sp : Sp2} {p : Pos} (c : Cxt X W k') (G : Cal X.prog X.w X.K X.mg X.base k x ps sp) (hk : k ≤ k') (hg : Gl X x) (ha : QAr X W (e :: es) As) (hdb : (x == ("__debug__" : Str)) = false := by decide)
    (he : starEach (e :: es) X.env = (false, eval e X.env) :: starEach es X.env := by rfl) (hpl : (backTo pos (starEach es X.env)).any (·.1) = false := by rfl) : QE X W (.Call (.Name x p) (e :: es) [] pos) (qCall sp As) := by
  obtain ⟨f, fd, Fo, hm, kp, bd⟩ := G.ex
  refine pe_imp (t := tCallS (lift X.K sp) (WE W) (can X.K (RepA X.K (e :: es).length) W As)) ⟨fun pins t σ H Q I h => ?_⟩ fun σ H Q h => call_sim h
  refine wpAny_Call_Name_kw (ld_glob I hg hm ?_ hdb)
  exact PySem.W.callWith_K (h₀ := X.base) I.ok.mod.kin kp (thn (ha.run pos pins t σ H _ I h) (by rintro us t2 ⟨xs, H2, I2, rv, q⟩; exact ⟨I2.kIn, run_fnG Fo c.gd (c.room.mono hk) bd (L2N.passAt c.tk σ) I2 rv q⟩)) he hpl
end
section
variable {X : Cx} {W : WX} {k : Nat} {e a b c : Expr} {es : List Expr} {pos : Pos} {A B : AE} {As : AA} {C : AT} {s : S} {T U : AS} {st : Stmt} {sts sts' : List Stmt} {G : AG} {Gs : AGs} {vs vs' : List Nat}
theorem qs_nil : QSs X W [] qNext := pss_imp pss_nil (by rintro D σ H ⟨F, M, ρ, D2, st, sl, h, cv⟩; exact cv.nx F H M σ ρ Ext.refl st sl h)
theorem seq_sim {D : Ends} {σ : L2.St} {H : Hp} (h : canS X.K W (qSeq T U) D σ H) : tSeq (canS X.K W T) (canS X.K W U) D σ H := by
  obtain ⟨F, M, ρ, D2, st, sl, h, cv⟩ := h
  refine ⟨F, M, ρ, _, st, sl, h, ⟨fun F' H' M' σ' ρ' e st' sl' q => ?_, cv.rt, cv.bk, cv.ct, cv.ex⟩⟩
  exact ⟨F', M', ρ', D2, st', sl', q, cv.mono e⟩
theorem qs_cons (h1 : QS X W st T) (h2 : QSs X W sts U) : QSs X W (st :: sts) (qSeq T U) := pss_imp (pss_cons h1 h2) fun D σ H h => seq_sim h
theorem qs_one (h1 : QS X W st T) : QSs X W [st] T := pss_one h1
theorem qs_expr (he : QE X W e A) (hs : swapsWith e none pos.line X.env = pure false := by rfl) : QS X W (.Expr e pos) (qDrop A) := ps_imp (ps_expr he hs) (by
      rintro D σ H ⟨F, M, ρ, D2, st, sl, h, cv⟩
      exact
          ⟨F, M, ρ, _, _, st, sl, h, ⟨fun F1 H1 M1 x s e1 st1 r1 h1 => cv.nx F1 H1 M1 σ ρ e1 st1 (sl.mono e1.ff) h1, cv.z sl⟩⟩)
theorem qs_ret (he : QE X W e A) : QS X W (.Return (some e) pos) (qRet A) := ps_imp (ps_ret he) (by rintro D σ H ⟨F, M, ρ, D2, st, sl, h, cv⟩; exact ⟨F, M, ρ, _, _, st, sl, h, ⟨cv.rt, cv.z sl⟩⟩)
theorem qs_if {tc : AT} (hc : QT X W c tc) (ha : QSs X W sts T) (hb : QSs X W sts' U) : QS X W (.If c sts sts' pos) (qIf tc T U) := ps_imp (ps_if hc ha hb) (by
  rintro D σ H ⟨F, M, ρ, D2, st, sl, h, cv⟩
  refine ⟨F, M, ρ, _, _, st, sl, h, ⟨fun F1 H1 M1 x s e1 st1 r1 h1 => ?_, cv.z sl⟩⟩
  subst r1
  cases x with
  | true => exact iteT ⟨F1, M1, ρ, D2, st1, sl.mono e1.ff, h1, cv.mono e1⟩
  | false => exact iteF ⟨F1, M1, ρ, D2, st1, sl.mono e1.ff, h1, cv.mono e1⟩)
theorem wipe_set (σ : L2.St) (i : Nat) (v : Option V) : wipe (σ.set i v) [i] = wipe σ [i] := by
  show (σ.set i v).set i none = σ.set i none
  rw [List.set_set]
theorem qg_name {i : Nat} {x : Str} (h : PG X (.Name x pos) (gName i)) : QG X W (.Name x pos) (qName i) [i] := pg_imp h (by
      rintro v σ H Q ⟨F, M, s, ρ, N, Z, st, sl, r, h, cv⟩
      exact
          cv F H M _ _ Ext.refl st (sl.set r) (wipe_set σ i (some v)) h)
theorem qgn (i : Nat) {x : Str} (hN : X.N.Nodup) (hi : X.N[i]? = some x := by rfl) (hx : Loc X.env.scope x := by first | exact .inl rfl | exact .inr rfl) (hf : X.fn x = true ∨ X.env.scope.names.lookup x = some .local := by first | exact .inl rfl | exact .inr rfl) :
    QG X W (.Name x pos) (qName i) [i] := qg_name (pg_name hN hi hx hf)
theorem wipe_app (σ : L2.St) : ∀ (vs vs' : List Nat), wipe σ (vs ++ vs') = wipe (wipe σ vs') vs
  | [], _ => rfl
  | i :: r, vs' => by
    show (wipe σ (r ++ vs')).set i none = (wipe (wipe σ vs') r).set i none
    rw [wipe_app σ r vs']
theorem wipe_comm1 (σ : L2.St) (i : Nat) : ∀ (vs : List Nat), wipe (σ.set i none) vs = (wipe σ vs).set i none
  | [] => rfl
  | j :: r => by
    show (wipe (σ.set i none) r).set j none = ((wipe σ r).set j none).set i none
    rw [wipe_comm1 σ i r]
    by_cases h : i = j
    · subst h; rfl
    · rw [List.set_comm _ _ h]
theorem wipe_comm (σ : L2.St) : ∀ (vs vs' : List Nat), wipe (wipe σ vs) vs' = wipe (wipe σ vs') vs
  | [], _ => rfl
  | i :: r, vs' => by
    show wipe ((wipe σ r).set i none) vs' = (wipe (wipe σ vs') r).set i none
    rw [wipe_comm1 (wipe σ r) i vs', wipe_comm σ r vs']
theorem qgs_nil : QGs X W [] qGNil [] := pgs_imp pgs_nil (by
  rintro us σ H Q ⟨F, M, ss, ρ, N, Z, st, sl, r, h, cv⟩
  cases r with
  | nil => exact ⟨rfl, cv F H M σ ρ Ext.refl st sl rfl h⟩
  | cons _ _ => exact (show False from h).elim)
theorem qgs_cons (h1 : QG X W e G vs) (h2 : QGs X W es Gs vs') (hs : (assignEach (e :: es) X.env).map (·.2) = assign e X.env :: (assignEach es X.env).map (·.2) := by rfl) : QGs X W (e :: es) (qGCons G Gs) (vs ++ vs') := pgs_imp (pgs_cons h1 h2 hs) (by
  rintro us σ H Q ⟨F, M, ss, ρ, N, Z, st, sl, r, h, cv⟩
  cases r with
  | nil => exact (show False from h).elim
  | @cons u us x ss r rs =>
    refine ⟨u, us, rfl, F, M, x, ρ, _, Z, st, sl, r, h, fun F1 H1 M1 σ1 ρ1 e1 st1 sl1 w1 h1 => ?_⟩
    refine ⟨F1, M1, ss, ρ1, N, Z, st1, sl1, rs.mono e1.ff, h1, fun F2 H2 M2 σ2 ρ2 e2 st2 sl2 w2 h2 => ?_⟩
    refine cv F2 H2 M2 σ2 ρ2 (e1.trans e2) st2 sl2 ?_ h2
    rw [wipe_app, wipe_app, w2, wipe_comm σ1, w1, wipe_comm σ])
theorem qg_tup {j : Nat} (hc : X.calm = true) (h : QGs X W es Gs vs) (hl : ∀ ss ρ M N Z, Gs ss ρ M N Z → ss.length = es.length) (hn : (assignEach es X.env).length = es.length := by rfl) (hst : (assignEach es X.env).findIdx? (·.1) = none := by rfl) :
    QG X W (.Tuple es j pos) (qGTup Gs) vs := by
  refine pg_imp (pg_tup (n := es.length) hc h hn hst) ?_
  rintro v σ H Q ⟨F, M, s, ρ, N, Z, st, sl, r, h, cv⟩
  unfold qGTup at h
  cases ei : itemsT s with
  | none => rw [ei] at h; exact (show False from h).elim
  | some xs =>
    rw [ei] at h
    obtain ⟨a, us, rfl, hsq, rl⟩ := items_st st r ei
    exact ⟨a, us, rfl, hsq, by rw [rl.length]; exact hl _ _ _ _ _ h, F, M, xs, ρ, N, Z, st, sl, rl, h, cv⟩
theorem qs_asg {G : AG} {tg : Expr} (he : QE X W e A) (hg : QG X W tg G vs) (hs : swapsWithSole [tg] e pos.line X.env = pure false := by rfl) (hw : swappedStores [tg] e X.env = pure none := by rfl)
    (h1 : (assignEach [tg] X.env).map (·.2) = [assign tg X.env] := by rfl) : QS X W (.Assign [tg] e pos) (qAsg A G) := ps_imp (ps_asg he hg hs hw h1) (by
  rintro D σ H ⟨F, M, ρ, D2, st, sl, h, cv⟩
  refine ⟨F, M, ρ, _, _, st, sl, h, ⟨fun F1 H1 M1 x s e1 st1 r1 h1 => ?_, cv.z sl⟩⟩
  exact ⟨F1, M1, s, ρ, _, _, st1, sl.mono e1.ff, r1, h1, fun F2 H2 M2 σ2 ρ2 e2 st2 sl2 _ h2 => cv.nx F2 H2 M2 σ2 ρ2 (e1.trans e2) st2 sl2 h2⟩)
/-- x = e -/
theorem qs_set (i : Nat) {x : Str} {pos' : Pos} (hN : X.N.Nodup) (he : QE X W e A) (hi : X.N[i]? = some x := by rfl) (hx : Loc X.env.scope x := by first | exact .inl rfl | exact .inr rfl) (hs : swapsWith e (some (.Name x pos')) pos.line X.env = pure false := by rfl)
    (hf : X.fn x = true ∨ X.env.scope.names.lookup x = some .local := by first | exact .inl rfl | exact .inr rfl) : QS X W (.Assign [.Name x pos'] e pos) (qAsg A (qName i)) := ps_imp (ps_set hN hi hx he hs hf) (by
  rintro D σ H ⟨F, M, ρ, D2, st, sl, h, cv⟩
  refine ⟨F, M, ρ, _, _, st, sl, h, ⟨fun F1 H1 M1 x s e1 st1 r1 h1 => ?_, cv.z sl⟩⟩
  exact cv.nx F1 H1 M1 _ _ e1 st1 ((sl.mono e1.ff).set r1) h1)
theorem qs_for {I : AI} {G : AG} {T : AS} {tg iter : Expr} {kk : Nat} (cx : Cxt X W kk) (hi : QI X W tg iter I) (hg : QG X W tg G vs) (hb : QSs X W sts T) (hs : ∀ x, foldedSetIterable iter X.env x = pure x := by intro _; rfl) : QS X W (.For tg iter sts [] pos) (qFor I G T) := by
  refine ps_imp (ps_for cx.pass cx.calm hi hg hb hs) ?_
  rintro D σ H ⟨F, M, ρ, D2, st, sl, h, cv⟩
  refine ⟨F, M, ρ, _, _, st, sl, h, ?_, cv.z sl⟩
  rintro F1 H1 M1 J items ok e1 st1 jt ⟨Iv, h0, hok, hstep, hend⟩
  refine ⟨fun i m σ H => m = items.length - i ∧ i ≤ items.length ∧ ∃ F M ρ, Ext F1 H1 M1 F H M ∧ Stt X.K F H M ∧ SlR X.K F σ ρ ∧ Iv i ρ M, ⟨items.length, by simp, Nat.zero_le _, F1, M1, ρ, Ext.refl, st1, sl.mono e1.ff, h0⟩, ?_⟩
  rintro i m σ2 H2 ⟨rfl, hle, F2, M2, ρ2, e2, st2, sl2, iv⟩
  have hok2 := hok i ρ2 M2 iv
  by_cases hlt : i < items.length
  · obtain ⟨jg, jy⟩ := jt.go i F2 H2 M2 items[i] e2.ff st2 hok2 (List.getElem?_eq_getElem hlt)
    refine .inr ⟨jg, fun σ' H' => ∃ F M ρ, Ext F1 H1 M1 F H' M ∧ Stt X.K F H' M ∧ SlR X.K F σ' ρ ∧ Iv (i + 1) ρ M, (by rintro σ' H' ⟨F, M, ρ, q1, q2, q3, q4⟩; exact ⟨items.length - (i + 1), by omega, rfl, hlt, F, M, ρ, q1, q2, q3, q4⟩), fun v H3 hy => ?_⟩
    obtain ⟨F3, e3, st3, r3⟩ := jy v H3 hy
    refine ⟨F3, M2, items[i], ρ2, _, _, st3, sl2.mono e3.ff, r3, hstep i _ ρ2 M2 (List.getElem?_eq_getElem hlt) iv, fun F4 H4 M4 σ4 ρ4 e4 st4 sl4 _ h4 => ?_⟩
    refine ⟨F4, M4, ρ4, _, st4, sl4, h4, ?_⟩
    have e14 := (e1.trans (e2.trans (e3.trans e4)))
    refine ⟨fun F' H' M' σ' ρ' e' st' sl' q => ⟨F', M', ρ', (e2.trans (e3.trans e4)).trans e', st', sl', q⟩, fun F' H' M' v s e' => cv.rt F' H' M' v s (e14.trans e'), fun F' H' M' σ' ρ' e' st' sl' q => cv.nx F' H' M' σ' ρ' (e14.trans e') st' sl' q,
      fun F' H' M' σ' ρ' e' st' sl' q => ⟨F', M', ρ', (e2.trans (e3.trans e4)).trans e', st', sl', q⟩, fun F' H' M' σ' ρ' C d s e' => cv.ex F' H' M' σ' ρ' C d s (e14.trans e')⟩
  · have hi : i = items.length := by omega
    subst hi
    exact .inl ⟨jt.stop F2 H2 M2 e2.ff st2 hok2, cv.nx F2 H2 M2 σ2 ρ2 (e1.trans e2) st2 sl2 (hend ρ2 M2 iv)⟩
theorem qs_while {C : AT} {T : AS} {kk : Nat} (cx : Cxt X W kk) (hc : QT X W c C) (hb : QSs X W sts T) : QS X W (.While c sts [] pos) (qWhile C T) := by
  refine ps_imp (ps_while cx.pass hc hb) ?_
  rintro D σ H ⟨F, M, ρ, D2, st, sl, ⟨Iv, ⟨m0, h0⟩, hstep⟩, cv⟩
  refine ⟨fun m σ' H' => ∃ F' M' ρ', Ext F H M F' H' M' ∧ Stt X.K F' H' M' ∧ SlR X.K F' σ' ρ' ∧ Iv m ρ' M', ⟨m0, F, M, ρ, Ext.refl, st, sl, h0⟩, ?_⟩
  rintro m σ1 H1 ⟨F1, M1, ρ1, e1, st1, sl1, iv⟩
  refine ⟨F1, M1, ρ1, _, _, st1, sl1, hstep m ρ1 M1 iv, ⟨fun F2 H2 M2 x s e2 st2 r2 h2 => ?_, (cv.mono e1).z sl1⟩⟩
  subst r2
  cases x with
  | false => exact iteF (cv.nx F2 H2 M2 _ _ (e1.trans e2) st2 (sl1.mono e2.ff) h2)
  | true =>
    refine iteT ⟨fun σ' H' => ∃ m', m' < m ∧ ∃ F' M' ρ', Ext F H M F' H' M' ∧ Stt X.K F' H' M' ∧ SlR X.K F' σ' ρ' ∧ Iv m' ρ' M', fun σ' H' q => q, F2, M2, ρ1, _, st2, sl1.mono e2.ff, h2, ?_⟩
    have e12 := e1.trans e2
    refine ⟨(by rintro F' H' M' σ' ρ' e' st' sl' ⟨m', hm, q⟩; exact ⟨m', hm, F', M', ρ', e12.trans e', st', sl', q⟩), fun F' H' M' v s e' => cv.rt F' H' M' v s (e12.trans e'), fun F' H' M' σ' ρ' e' st' sl' q => cv.nx F' H' M' σ' ρ' (e12.trans e') st' sl' q,
      (by rintro F' H' M' σ' ρ' e' st' sl' ⟨m', hm, q⟩; exact ⟨m', hm, F', M', ρ', e12.trans e', st', sl', q⟩), fun F' H' M' σ' ρ' C d s e' => cv.ex F' H' M' σ' ρ' C d s (e12.trans e')⟩
theorem wipe_comm_self {σ : L2.St} {vs : List Nat} : wipe (wipe σ vs) vs = wipe σ vs := by
  induction vs generalizing σ with
  | nil => rfl
  | cons i r ih =>
    show (wipe ((wipe σ r).set i none) r).set i none = (wipe σ r).set i none
    rw [wipe_comm1, ih, List.set_set]
theorem slR_wipe {K : PySem.W.Frag} {F : Hp} {σ : L2.St} {ρ : Rl} (h : SlR K F σ ρ) : ∀ vs : List Nat, SlR K F (wipe σ vs) (wipe2 ρ vs)
  | [] => h
  | i :: r => (slR_wipe h r).none
/-- within a comprehension's block nothing is let out -/
abbrev W0 : WX := fun _ _ _ _ => False
theorem Cxt.blk {kk : Nat} {s : Shared} {H : Hp} {scope : Scope} {ce : Env} {fp : List Addr} (cx : Cxt X W kk) : Cxt (X.blk s H scope ce fp) W0 kk :=
  ⟨takesN, cx.calm, cx.nd, cx.room, PassesOwn.never, cx.gd⟩
structure EndOk (K : PySem.W.Frag) (En : List S → Mem → K2 → Prop) : Prop where
  run : ∀ {F H : Hp} {M : Mem} {D : Addr} {vs : List V} {acc : List S} {P : K2} {Q : VK}, Stt K F H M → H D = some (.lst vs) → F D = none → M D = none → RepL K F vs acc → En acc M P →
    (∀ F' H' M' v u, Same F F' → (∀ a o, a ≠ D → H a = some o → F a = none → M a = none → H' a = some o ∧ F' a = none ∧ M' a = none) → Stt K F' H' M' → Rep K F' v u → P u M' → Q v H') → Q (.ref D) H
theorem enD_ok {K : PySem.W.Frag} : EndOk K enD := ⟨fun {F H M D vs acc P Q} st hD fD mD r en q => by
  obtain ⟨ds, rfl, hp⟩ := en
  have st2 : Stt K (upd F D (.lst vs)) H M := by
    refine ⟨fun b u e => ?_, fun p mo e => ?_⟩
    · by_cases hb : b = D
      · subst hb; rw [upd_same] at e; rw [← e]; exact hD
      · rw [upd_ne hb] at e; exact st.sub b u e
    · obtain ⟨h1, ho, h2, h3⟩ := st.mem p mo e
      have hpD : p ≠ D := fun z => by subst z; rw [mD] at e; cases e
      refine ⟨by rw [upd_ne hpD]; exact h1, ho, h2, h3.frozen (same_new fD) fun d fs h4 h5 => ⟨h4, ?_⟩⟩
      rw [upd_ne fun z => ?_]
      · exact h5
      · subst z; rw [hD] at h4; cases h4
  refine q _ H M _ _ (same_new fD) (fun a o ha h1 h2 h3 => ⟨h1, by rw [upd_ne ha]; exact h2, h3⟩) st2 (.d (.lst (.inl (.inl upd_same)) (dpAll_of (r.mono (same_new fD))))) hp⟩
theorem enM_ok {K : PySem.W.Frag} : EndOk K enM := ⟨fun {F H M D vs acc P Q} st hD fD mD r en q => by
  have st2 : Stt K F H (mput M D (.lst acc)) := by
    refine ⟨st.sub, fun p mo e => ?_⟩
    by_cases hp : p = D
    · subst hp
      rw [mput_same] at e; cases e
      exact ⟨fD, _, hD, vs, rfl, r⟩
    · rw [mput_ne hp] at e
      exact st.mem p mo e
  exact q F H _ _ _ (Same.refl F) (fun a o ha h1 h2 h3 => ⟨h1, h2, by rw [mput_ne ha]; exact h3⟩) st2 .v (en D mD)⟩
theorem lc_sim {En : List S → Mem → K2 → Prop} (hE : EndOk X.K En) {I : AI} {G : AG} {TT : AT} {A : AE} {own : List Nat} {σ : L2.St} {H : Hp} {Q : VK} (h : canE X.K W (qLc En I G TT A own) σ H Q) : tLc (canI X.K W I) (canG X.K W0 G own) (canT X.K W0 TT) (canE X.K W0 A) own σ H Q := by
  obtain ⟨F, M, ρ, P, Z, st, sl, h, cv⟩ := h
  refine ⟨F, M, ρ, _, _, st, sl, h, ?_, cv.z⟩
  rintro F1 H1 M1 J items ok e1 st1 jt ⟨hsz, Iv, h0, hok, hstep, hend⟩
  intro D hD
  have fD1 := st1.free hD
  have mD1 := st1.mfree hD
  -- the list D stands beside: neither frozen nor in the store
  have stD : Stt X.K F1 (upd H1 D (.lst [])) M1 := by
    refine ⟨fun b u e => by rw [upd_ne (ne_of_none e fD1)]; exact st1.sub b u e, fun p mo e => ?_⟩
    obtain ⟨g1, ho, g2, g3⟩ := st1.mem p mo e
    exact ⟨g1, ho, by rw [upd_ne (ne_of_none g2 hD)]; exact g2, g3.frozen (Same.refl F1) fun d fs h4 h5 => ⟨by rw [upd_ne (ne_of_none h4 hD)]; exact h4, h5⟩⟩
  -- what holds at turn i
  let Wt : Nat → Hp → Prop := fun i H => ∃ F M vs acc, Same F1 F ∧ (∀ a o, a ≠ D → H1 a = some o → F1 a = none → M1 a = none → H a = some o ∧ F a = none ∧ M a = none) ∧ Stt X.K F H M ∧ H D = some (.lst vs) ∧ F D = none ∧ M D = none ∧ RepL X.K F vs acc ∧ acc.length ≤ i ∧ Iv i acc M
  refine ⟨fun i m H => m = items.length - i ∧ i ≤ items.length ∧ Wt i H, ⟨items.length, by simp, Nat.zero_le _, F1, M1, [], [], Same.refl F1, fun a o ha h1 h2 h3 => ⟨by rw [upd_ne ha]; exact h1, h2, h3⟩, stD, upd_same, fD1, mD1, .nil, Nat.le_refl _, h0⟩, ?_⟩
  rintro i m H2 ⟨rfl, hle, F2, M2, vs, acc, s2, rest2, st2, hD2, fD2, mD2, r2, hacc, iv⟩
  have hok2 := hok i acc M2 iv
  by_cases hlt : i < items.length
  · obtain ⟨jg, jy⟩ := jt.go i F2 H2 M2 items[i] s2 st2 hok2 (List.getElem?_eq_getElem hlt)
    refine .inr ⟨jg, Wt (i + 1), fun H' w => ⟨items.length - (i + 1), by omega, rfl, hlt, w⟩, fun v H3 hy => ?_⟩
    obtain ⟨F3, e3, st3, r3⟩ := jy v H3 hy
    have slw := slR_wipe ((sl.mono e1.ff).mono (s2.trans e3.ff)) own
    refine ⟨F3, M2, items[i], _, _, noX, st3, slw, r3, hstep i _ acc M2 (List.getElem?_eq_getElem hlt) iv, fun F4 H4 M4 σ4 ρ4 e4 st4 sl4 hw h4 => ?_⟩
    refine ⟨hw.trans (by rw [wipe_comm_self]), ?_⟩
    refine ⟨F4, M4, ρ4, _, noX, st4, sl4, h4, ⟨fun F5 H5 M5 b b' e5 st5 rb h5 => ?_, fun _ _ _ _ _ _ _ _ _ z => z⟩⟩
    subst rb
    have e25 := (e3.trans e4).trans e5
    cases b with
    | true =>
      refine iteT ⟨F5, M5, ρ4, _, noX, st5, sl4.mono e5.ff, h5, ⟨fun F6 H6 M6 y s e6 st6 r6 h6 => ?_, fun _ _ _ _ _ _ _ _ _ z => z⟩⟩
      have e26 := e25.trans e6
      obtain ⟨g1, g2, g3⟩ := e26.rest D _ hD2 fD2 mD2
      refine ⟨vs, g1, ?_, ?_⟩
      · rw [r2.length]; omega
      · refine ⟨F6, M6, vs ++ [y], acc ++ [s], s2.trans e26.ff, fun a o ha h1 h2 h3 => ?_, ?_, upd_same, g2, g3, (r2.mono e26.ff).append (.cons r6 .nil), by rw [List.length_append]; simp; omega, h6⟩
        · obtain ⟨k1, k2, k3⟩ := rest2 a o ha h1 h2 h3
          obtain ⟨j1, j2, j3⟩ := e26.rest a o k1 k2 k3
          exact ⟨by rw [upd_ne ha]; exact j1, j2, j3⟩
        · refine ⟨fun b u e => by rw [upd_ne (ne_of_none e g2)]; exact st6.sub b u e, fun p mo e => ?_⟩
          obtain ⟨q1, ho, q2, q3⟩ := st6.mem p mo e
          have hp : p ≠ D := fun z => by subst z; rw [g3] at e; cases e
          refine ⟨q1, ho, by rw [upd_ne hp]; exact q2, q3.frozen (Same.refl F6) fun d fs h4 h5 => ⟨?_, h5⟩⟩
          rw [upd_ne fun z => ?_]
          · exact h4
          · subst z; rw [g1] at h4; cases h4
    | false =>
      refine iteF ?_
      obtain ⟨g1, g2, g3⟩ := e25.rest D _ hD2 fD2 mD2
      refine ⟨F5, M5, vs, acc, s2.trans e25.ff, fun a o ha h1 h2 h3 => ?_, st5, g1, g2, g3, r2.mono e25.ff, by omega, h5⟩
      obtain ⟨k1, k2, k3⟩ := rest2 a o ha h1 h2 h3
      exact e25.rest a o k1 k2 k3
  · have hi : i = items.length := by omega
    subst hi
    refine .inl ⟨jt.stop F2 H2 M2 s2 st2 hok2, hE.run st2 hD2 fD2 mD2 r2 (hend acc M2 iv) fun F' H' M' v u sm rst st' r' hp => ?_⟩
    refine cv.q F' H' M' v u (e1.trans ⟨s2.trans sm, fun a o h1 h2 h3 => ?_⟩) st' r' hp
    have ha : a ≠ D := ne_of_none h1 hD
    obtain ⟨k1, k2, k3⟩ := rest2 a o ha h1 h2 h3
    exact rst a o ha k1 k2 k3
end
end Lv
set_option Elab.async false
set_option linter.all false
set_option maxRecDepth 100000
set_option maxHeartbeats 4000000
namespace Lv
open PySem PySem.Spec PyProof.Rows L2
section
variable {K : PySem.W.Frag} {F H : Hp} {M : Mem} {u : V}
theorem rep_int {i : Int} (r : Rep K F u (.d (.int i))) : u = .int i := by cases r with | d r => cases r; rfl
theorem rep_str {i : Str} (r : Rep K F u (.d (.str i))) : u = .str i := by cases r with | d r => cases r; rfl
theorem rep_bool {i : Bool} (r : Rep K F u (.d (.bool i))) : u = .bl i := by cases r with | d r => cases r; rfl
theorem rep_none (r : Rep K F u (.d .none)) : u = .non := by cases r with | d r => cases r; rfl
theorem rep_v {x : V} (r : Rep K F u (.v x)) : u = x := by cases r; rfl
theorem rep_tuple {ds : List PyData} (r : Rep K F u (.d (.tuple ds))) : ∃ a vs, u = .ref a ∧ SqT K F a vs ∧ DpAll K F vs ds := by
  cases r with
  | d r => cases r with | tup h1 h2 => exact ⟨_, _, rfl, h1, h2⟩
theorem rep_list {ds : List PyData} (r : Rep K F u (.d (.list ds))) : ∃ a vs, u = .ref a ∧ SqL K F a vs ∧ DpAll K F vs ds := by
  cases r with
  | d r => cases r with | lst h1 h2 => exact ⟨_, _, rfl, h1, h2⟩
theorem dpApp : ∀ {us ws : List V} {xs ys : List PyData}, DpAll K F us xs → DpAll K F ws ys → DpAll K F (us ++ ws) (xs ++ ys)
  | _, _, _, _, .nil, s => s
  | _, _, _, _, .cons r t, s => .cons r (dpApp t s)
/-- a new frozen list of data -/
theorem newL {Q : VK} {P : K2} {p : Addr} {vs : List V} {ds : List PyData} (st : Stt K F H M) (r : DpAll K F vs ds) (hp : H p = none) (h : P (.d (.list ds)) M)
    (q : ∀ F' H' M' v u, Ext F H M F' H' M' → Stt K F' H' M' → Rep K F' v u → P u M' → Q v H') : Q (.ref p) (upd H p (.lst vs)) := by
  obtain ⟨st2, e2⟩ := st.newF (o := .lst vs) hp
  exact q _ _ _ _ _ e2 st2 (.d (.lst (.inl (.inl upd_same)) (dpAllMono e2.ff _ _ r))) h
theorem newT {Q : VK} {P : K2} {p : Addr} {vs : List V} {ds : List PyData} (st : Stt K F H M) (r : DpAll K F vs ds) (hp : H p = none) (h : P (.d (.tuple ds)) M)
    (q : ∀ F' H' M' v u, Ext F H M F' H' M' → Stt K F' H' M' → Rep K F' v u → P u M' → Q v H') : Q (.ref p) (upd H p (.tup vs)) := by
  obtain ⟨st2, e2⟩ := st.newF (o := .tup vs) hp
  exact q _ _ _ _ _ e2 st2 (.d (.tup (.inl (.inl upd_same)) (dpAllMono e2.ff _ _ r))) h
theorem newLM {Q : VK} {P : K2} {p : Addr} {vs : List V} {xs : List S} (st : Stt K F H M) (r : RepL K F vs xs) (hp : H p = none) (h : ∀ p, M p = none → P (.a p) (mput M p (.lst xs)))
    (q : ∀ F' H' M' v u, Ext F H M F' H' M' → Stt K F' H' M' → Rep K F' v u → P u M' → Q v H') : Q (.ref p) (upd H p (.lst vs)) := by
  obtain ⟨st2, e2⟩ := st.newM (o := .lst vs) (mo := .lst xs) hp ⟨vs, rfl, r⟩
  exact q _ _ _ _ _ e2 st2 .v (h p (st.mfree hp))
end
def rCatG (K : PySem.W.Frag) : R2 := fun x y H Q => ∃ l b xs zs, x = .ref l ∧ y = .ref b ∧ SqL K H l xs ∧ SqL K H b zs ∧ xs.length + zs.length ≤ sizeLine ∧ ∀ p, H p = none → Q (.ref p) (upd H p (.lst (xs ++ zs)))
theorem op_catG {X : Cx} : OpR X (binaryOp .Add) (rCatG X.K) := by
  intro pins s σ H x y v u Q I rx ry h
  obtain ⟨l, b, xs, zs, rfl, rfl, hH, hB, hz, q⟩ := h
  cases rx
  cases ry
  obtain ⟨its, r, ⟨⟨cls, dd, data, sl⟩, n, e, hc, hd, hdt⟩, z⟩ := I.list hH
  obtain ⟨its2, r2, ⟨⟨cls2, dd2, data2, sl2⟩, n2, e2, hc2, hd2, hdt2⟩, z2⟩ := I.list hB
  simp only at hc hd hdt hc2 hd2 hdt2
  subst hc hd hdt hc2 hd2 hdt2
  have l1 := r.length
  have l2 := r2.length
  have hsz : its.toArray.size + its2.toArray.size ≤ sizeLine := by rw [List.size_toArray, List.size_toArray]; omega
  refine concat_meets ⟨_, e, rfl⟩ ⟨_, e2, rfl⟩ noFill_list_add seq_list_add PySem.F.slot_list_add PySem.F.entry_list_add (PySem.F.args_list_add_2 _ _) (list_addW l b its.toArray its2.toArray n n2 none none sl sl2 hsz) ⟨e, e2, ?_⟩
  have ea : its.toArray ++ its2.toArray = (its ++ its2).toArray := by simp
  rw [ea]
  exact ⟨.ref _, _, I.lnew (t' := s.toks) (r.append r2) (by rw [List.length_append]; omega), rfl, q _ I.fresh⟩
def oAdd : O2 := fun s t M P => match s, t with
  | .d (.int i), .d (.int j) => P (.i (i + j)) M
  | .d (.str a), .d (.str b) => a.length + b.length ≤ sizeLine ∧ P (.s (a ++ b)) M
  | .d (.tuple a), .d (.tuple b) => a.length + b.length ≤ sizeLine ∧ P (.d (.tuple (a ++ b))) M
  | s, t => ∃ a b, DL M s a ∧ DL M t b ∧ a.length + b.length ≤ sizeLine ∧ P (.d (.list (a ++ b))) M
def rAddA (K : PySem.W.Frag) : R2 := fun x y H Q => ((rI0 fun i j => .int (i + j)) x y H Q) ∨ ((∃ i j, x = .str i ∧ y = .str j ∧ i.length + j.length ≤ sizeLine ∧ Q (.str (i ++ j)) H) ∨ (rCatA K x y H Q ∨ rCatG K x y H Q))
theorem op_addA {X : Cx} : OpR X (binaryOp .Add) (rAddA X.K) := OpR.or op_add (OpR.or op_add_str (OpR.or op_catA op_catG))
theorem sAdd {K : PySem.W.Frag} : OpS K (rAddA K) oAdd := by
  intro F H M x y s t P Q st rx ry h q
  unfold oAdd at h
  split at h
  · have e1 := rep_int rx
    have e2 := rep_int ry
    subst e1 e2
    exact .inl ⟨_, _, rfl, rfl, q F H M _ _ Ext.refl st (.d (.int _)) h⟩
  · have e1 := rep_str rx
    have e2 := rep_str ry
    subst e1 e2
    exact .inr (.inl ⟨_, _, rfl, rfl, h.1, q F H M _ _ Ext.refl st (.d (.str _)) h.2⟩)
  · obtain ⟨a1, v1, rfl, h1, d1⟩ := rep_tuple rx
    obtain ⟨a2, v2, rfl, h2, d2⟩ := rep_tuple ry
    refine .inr (.inr (.inl ⟨a1, a2, v1, v2, rfl, rfl, sameT st.sub h1, sameT st.sub h2, by rw [dpLen d1, dpLen d2]; exact h.1, fun e => ?_, fun _ e => ?_, fun _ _ p hp => ?_⟩))
    · subst e
      cases d1
      exact q F H M _ _ Ext.refl st ry h.2
    · subst e
      cases d2
      rw [List.append_nil] at h
      exact q F H M _ _ Ext.refl st rx h.2
    · exact newT st (dpApp d1 d2) hp h.2 q
  · obtain ⟨a, b, h1, h2, hz, h⟩ := h
    obtain ⟨a1, v1, rfl, g1, d1⟩ := h1.sq st rx
    obtain ⟨a2, v2, rfl, g2, d2⟩ := h2.sq st ry
    refine .inr (.inr (.inr ⟨a1, a2, v1, v2, rfl, rfl, g1, g2, by rw [dpLen d1, dpLen d2]; exact hz, fun p hp => newL st (dpApp d1 d2) hp h q⟩))
/-- ints in, a value out -/
def oI (C : Int → Int → Prop) (g : Int → Int → S) : O2 := fun s t M P => match s, t with
  | .d (.int i), .d (.int j) => C i j ∧ P (g i j) M
  | _, _ => False
def oI0 (g : Int → Int → S) : O2 := fun s t M P => match s, t with
  | .d (.int i), .d (.int j) => P (g i j) M
  | _, _ => False
theorem sI {K : PySem.W.Frag} {C : Int → Int → Prop} {g : Int → Int → V} {g' : Int → Int → S} (hg : ∀ F i j, Rep K F (g i j) (g' i j)) : OpS K (rI C g) (oI C g') := by
  intro F H M x y s t P Q st rx ry h q
  unfold oI at h
  split at h
  · have e1 := rep_int rx
    have e2 := rep_int ry
    subst e1 e2
    exact ⟨_, _, rfl, rfl, h.1, q F H M _ _ Ext.refl st (hg F _ _) h.2⟩
  · exact h.elim
theorem sI0 {K : PySem.W.Frag} {g : Int → Int → V} {g' : Int → Int → S} (hg : ∀ F i j, Rep K F (g i j) (g' i j)) : OpS K (rI0 g) (oI0 g') := by
  intro F H M x y s t P Q st rx ry h q
  unfold oI0 at h
  split at h
  · have e1 := rep_int rx
    have e2 := rep_int ry
    subst e1 e2
    exact ⟨_, _, rfl, rfl, q F H M _ _ Ext.refl st (hg F _ _) h⟩
  · exact h.elim
abbrev oSub : O2 := oI0 fun i j => .i (i - j)
abbrev oMul : O2 := oI CMul fun i j => .i (i * j)
abbrev oMod : O2 := oI (fun _ j => j ≠ 0) fun i j => .i (i.fmod j)
abbrev oPow : O2 := oI CPow fun i j => .i (i ^ j.toNat)
abbrev oLt : O2 := oI0 fun i j => .b (decide (i < j))
abbrev oLe : O2 := oI0 fun i j => .b (decide (i ≤ j))
abbrev oGt : O2 := oI0 fun i j => .b (decide (j < i))
abbrev oGe : O2 := oI0 fun i j => .b (decide (j ≤ i))
def oNeg : U2 := fun s M P => match s with
  | .d (.int i) => P (.i (-i)) M
  | _ => False
theorem sNeg {K : PySem.W.Frag} : UnS K (rU fun i => .int (-i)) oNeg := by
  intro F H M x s P Q st rx h q
  unfold oNeg at h
  split at h
  · have e1 := rep_int rx
    subst e1
    exact ⟨_, rfl, q F H M _ _ Ext.refl st (.d (.int _)) h⟩
  · exact h.elim
section
variable {X : Cx} {W : WX} {k : Nat} {e a b c : Expr} {es : List Expr} {pos : Pos} {A B C : AE} {As : AA} {s : S}
theorem qe_add (ha : QE X W a A) (hb : QE X W b B) : QE X W (.BinOp a .Add b pos) (qOp oAdd A B) := qe_op op_addA sAdd ha hb
theorem qe_sub (ha : QE X W a A) (hb : QE X W b B) : QE X W (.BinOp a .Sub b pos) (qOp oSub A B) := qe_op op_sub (sI0 fun _ _ _ => .d (.int _)) ha hb
theorem qe_mul (ha : QE X W a A) (hb : QE X W b B) : QE X W (.BinOp a .Mult b pos) (qOp oMul A B) := qe_op op_mul (sI fun _ _ _ => .d (.int _)) ha hb
theorem qe_mod (ha : QE X W a A) (hb : QE X W b B) : QE X W (.BinOp a .Mod b pos) (qOp oMod A B) := qe_op op_modN (sI fun _ _ _ => .d (.int _)) ha hb
theorem qe_pow (ha : QE X W a A) (hb : QE X W b B) : QE X W (.BinOp a .Pow b pos) (qOp oPow A B) := qe_op op_pow (sI fun _ _ _ => .d (.int _)) ha hb
theorem qe_neg (ha : QE X W a A) : QE X W (.UnaryOp .USub a pos) (qUn oNeg A) := qe_un un_neg sNeg ha
end
/-- is the value None -/
def isNone : S → Bool
  | .d .none => true
  | .v .non => true
  | _ => false
theorem isNone_of {K : PySem.W.Frag} {F : Hp} {u : V} {s : S} (r : Rep K F u s) : decide (u = .non) = isNone s := by
  cases r with
  | @d _ x h =>
    cases x <;> cases h <;> rfl
  | v => cases u <;> rfl
  | t _ _ => rfl
def oIs : O2 := fun s t M P => match t with
  | .d .none => P (.b (isNone s)) M
  | _ => False
def oIsN : O2 := fun s t M P => match t with
  | .d .none => P (.b (!isNone s)) M
  | _ => False
theorem sIs {K : PySem.W.Frag} : OpS K (fun x y H Q => y = .non ∧ Q (.bl (decide (x = .non))) H) oIs := by
  intro F H M x y s t P Q st rx ry h q
  unfold oIs at h
  split at h
  · exact ⟨rep_none ry, q F H M _ _ Ext.refl st (.d (by rw [isNone_of rx]; exact .bl _)) h⟩
  · exact h.elim
theorem sIsN {K : PySem.W.Frag} : OpS K (fun x y H Q => y = .non ∧ Q (.bl (!decide (x = .non))) H) oIsN := by
  intro F H M x y s t P Q st rx ry h q
  unfold oIsN at h
  split at h
  · exact ⟨rep_none ry, q F H M _ _ Ext.refl st (.d (by rw [isNone_of rx]; exact .bl _)) h⟩
  · exact h.elim
/-- == of data -/
def rEqP (K : PySem.W.Frag) : R2 := fun x y H Q => ∃ d e, Dp K H x d ∧ Dp K H y e ∧ min d.depth e.depth ≤ 60 ∧ Q (.bl (PyData.eqv d e)) H
def rNeP (K : PySem.W.Frag) : R2 := fun x y H Q => ∃ d e, Dp K H x d ∧ Dp K H y e ∧ min d.depth e.depth ≤ 60 ∧ Q (.bl (!PyData.eqv d e)) H
theorem op_eqP {X : Cx} (hu : X.A.units + 64 < cLine) : OpR X (compareOp .Eq) (rEqP X.K) := by
  intro pins s σ H x y v u Q I rx ry h
  obtain ⟨d, e, hd, he, hm, q⟩ := h
  obtain ⟨as, r1⟩ := Dp.reads I d x v hd rx
  obtain ⟨bs, r2⟩ := Dp.reads I e y u he ry
  exact SeqAt.eq_plain r1 r2 (dp_plain _ _ hd) (dp_plain _ _ he) (by omega) ⟨.bl _, H, I, rfl, q⟩
theorem op_neP {X : Cx} (hu : X.A.units + 64 < cLine) : OpR X (compareOp .NotEq) (rNeP X.K) := by
  intro pins s σ H x y v u Q I rx ry h
  obtain ⟨d, e, hd, he, hm, q⟩ := h
  obtain ⟨as, r1⟩ := Dp.reads I d x v hd rx
  obtain ⟨bs, r2⟩ := Dp.reads I e y u he ry
  exact SeqAt.ne_plain r1 r2 (dp_plain _ _ hd) (dp_plain _ _ he) (by omega) ⟨.bl _, H, I, rfl, q⟩
def oEq : O2 := fun s t M P => match s, t with
  | .d (.int i), .d y => P (.b (PyData.eqv (.int i) y)) M
  | .d (.str i), .d y => P (.b (PyData.eqv (.str i) y)) M
  | .d (.bool i), .d y => P (.b (PyData.eqv (.bool i) y)) M
  | .d .none, .d y => P (.b (PyData.eqv .none y)) M
  | .d x, .d (.int i) => P (.b (PyData.eqv x (.int i))) M
  | .d x, .d (.str i) => P (.b (PyData.eqv x (.str i))) M
  | .d x, .d .none => P (.b (PyData.eqv x .none)) M
  | s, t => ∃ d e, DV M s d ∧ DV M t e ∧ min d.depth e.depth ≤ 60 ∧ P (.b (PyData.eqv d e)) M
def oNe : O2 := fun s t M P => oEq s t M fun v M1 => match v with
  | .d (.bool b) => P (.b (!b)) M1
  | _ => False
theorem oEq_of {K : PySem.W.Frag} {F H : Hp} {M : Mem} {x y : V} {s t : S} {P : K2} (st : Stt K F H M) (rx : Rep K F x s) (ry : Rep K F y t) (h : oEq s t M P) : ∃ d e, Dp K H x d ∧ Dp K H y e ∧ min d.depth e.depth ≤ 60 ∧ P (.b (PyData.eqv d e)) M := by
  have dd : ∀ {u : V} {z : PyData}, Rep K F u (.d z) → Dp K H u z := fun r => by cases r with | d r => exact dpMono st.sub _ _ r
  have z1 : PyData.depth (.none) = 0 := by simp [PyData.depth]
  have z2 : ∀ i, PyData.depth (.int i) = 0 := fun i => by simp [PyData.depth]
  have z3 : ∀ i, PyData.depth (.str i) = 0 := fun i => by simp [PyData.depth]
  have z4 : ∀ i, PyData.depth (.bool i) = 0 := fun i => by simp [PyData.depth]
  unfold oEq at h
  split at h
  · exact ⟨_, _, dd rx, dd ry, by rw [z2]; omega, h⟩
  · exact ⟨_, _, dd rx, dd ry, by rw [z3]; omega, h⟩
  · exact ⟨_, _, dd rx, dd ry, by rw [z4]; omega, h⟩
  · exact ⟨_, _, dd rx, dd ry, by rw [z1]; omega, h⟩
  · exact ⟨_, _, dd rx, dd ry, by rw [z2]; omega, h⟩
  · exact ⟨_, _, dd rx, dd ry, by rw [z3]; omega, h⟩
  · exact ⟨_, _, dd rx, dd ry, by rw [z1]; omega, h⟩
  · obtain ⟨d, e, h1, h2, h3, h4⟩ := h
    exact ⟨d, e, h1.dp st rx, h2.dp st ry, h3, h4⟩
theorem sEq {K : PySem.W.Frag} : OpS K (rEqP K) oEq := by
  intro F H M x y s t P Q st rx ry h q
  obtain ⟨d, e, h1, h2, h3, h4⟩ := oEq_of st rx ry h
  exact ⟨d, e, h1, h2, h3, q F H M _ _ Ext.refl st (.d (.bl _)) h4⟩
theorem sNe {K : PySem.W.Frag} : OpS K (rNeP K) oNe := by
  intro F H M x y s t P Q st rx ry h q
  obtain ⟨d, e, h1, h2, h3, h4⟩ := oEq_of st rx ry h
  exact ⟨d, e, h1, h2, h3, q F H M _ _ Ext.refl st (.d (.bl _)) h4⟩
/-- in, not in -/
def strIn (a b : Str) : Bool := !(Builtin.Str.occurrences b a 0 b.length 1).isEmpty
def oIn : O2 := fun s t M P => match s, t with
  | .d (.str a), .d (.str b) => P (.b (strIn a b)) M
  | s, t => ∃ d xs, DV M s d ∧ (DL M t xs ∨ t = .d (.tuple xs)) ∧ d.depth ≤ 60 ∧ P (.b (xs.any fun y => PyData.eqv y d)) M
def oNotIn : O2 := fun s t M P => oIn s t M fun v M1 => match v with
  | .d (.bool b) => P (.b (!b)) M1
  | _ => False
def rInP (K : PySem.W.Frag) (neg : Bool) : R2 := fun x y H Q => (∃ i j, x = .str i ∧ y = .str j ∧ Q (.bl (if neg then !strIn i j else strIn i j)) H) ∨
  ∃ d xs, Dp K H x d ∧ (Dp K H y (.list xs) ∨ Dp K H y (.tuple xs)) ∧ d.depth ≤ 60 ∧ Q (.bl (if neg then !(xs.any fun y => PyData.eqv y d) else xs.any fun y => PyData.eqv y d)) H
theorem op_inP {X : Cx} (hu : X.A.units + 64 < cLine) : OpR X (compareOp .In) (rInP X.K false) := by
  intro pins s σ H x y v u Q I rx ry h
  rcases h with h | ⟨d, xs, h1, h2, h3, q⟩
  · exact op_in_str pins s σ H x y v u Q I rx ry h
  · obtain ⟨as, r1⟩ := Dp.reads I d x v h1 rx
    have pd := dp_plain _ _ h1
    rcases h2 with h2 | h2
    · obtain ⟨bs, r2⟩ := Dp.reads I _ y u h2 ry
      have pl := dp_plain _ _ h2
      unfold PyData.plain at pl
      exact SeqAt.in_list_data r2 r1 pl pd (by omega) ⟨.bl _, H, I, rfl, q⟩
    · obtain ⟨bs, r2⟩ := Dp.reads I _ y u h2 ry
      have pl := dp_plain _ _ h2
      unfold PyData.plain at pl
      exact SeqAt.in_tuple_data r2 r1 pl pd (by omega) ⟨.bl _, H, I, rfl, q⟩
theorem op_notInP {X : Cx} (hu : X.A.units + 64 < cLine) : OpR X (compareOp .NotIn) (rInP X.K true) := by
  intro pins s σ H x y v u Q I rx ry h
  rcases h with h | ⟨d, xs, h1, h2, h3, q⟩
  · exact op_notin_str pins s σ H x y v u Q I rx ry h
  · obtain ⟨as, r1⟩ := Dp.reads I d x v h1 rx
    have pd := dp_plain _ _ h1
    rcases h2 with h2 | h2
    · obtain ⟨bs, r2⟩ := Dp.reads I _ y u h2 ry
      have pl := dp_plain _ _ h2
      unfold PyData.plain at pl
      exact SeqAt.notIn_list_data r2 r1 pl pd (by omega) ⟨.bl _, H, I, rfl, q⟩
    · obtain ⟨bs, r2⟩ := Dp.reads I _ y u h2 ry
      have pl := dp_plain _ _ h2
      unfold PyData.plain at pl
      exact SeqAt.notIn_tuple_data r2 r1 pl pd (by omega) ⟨.bl _, H, I, rfl, q⟩
theorem oIn_of {K : PySem.W.Frag} {F H : Hp} {M : Mem} {x y : V} {s t : S} {P : K2} (st : Stt K F H M) (rx : Rep K F x s) (ry : Rep K F y t) (h : oIn s t M P) : (∃ i j, x = .str i ∧ y = .str j ∧ P (.b (strIn i j)) M) ∨
    ∃ d xs, Dp K H x d ∧ (Dp K H y (.list xs) ∨ Dp K H y (.tuple xs)) ∧ d.depth ≤ 60 ∧ P (.b (xs.any fun y => PyData.eqv y d)) M := by
  unfold oIn at h
  split at h
  · exact .inl ⟨_, _, rep_str rx, rep_str ry, h⟩
  · obtain ⟨d, xs, h1, h2, h3, h4⟩ := h
    refine .inr ⟨d, xs, h1.dp st rx, ?_, h3, h4⟩
    rcases h2 with h2 | h2
    · exact .inl (h2.dv.dp st ry)
    · subst h2
      cases ry with
      | d r => exact .inr (dpMono st.sub _ _ r)
theorem sIn {K : PySem.W.Frag} : OpS K (rInP K false) oIn := by
  intro F H M x y s t P Q st rx ry h q
  rcases oIn_of st rx ry h with ⟨i, j, h1, h2, h3⟩ | ⟨d, xs, h1, h2, h3, h4⟩
  · exact .inl ⟨i, j, h1, h2, q F H M _ _ Ext.refl st (.d (.bl _)) h3⟩
  · exact .inr ⟨d, xs, h1, h2, h3, q F H M _ _ Ext.refl st (.d (.bl _)) h4⟩
theorem sNotIn {K : PySem.W.Frag} : OpS K (rInP K true) oNotIn := by
  intro F H M x y s t P Q st rx ry h q
  rcases oIn_of st rx ry h with ⟨i, j, h1, h2, h3⟩ | ⟨d, xs, h1, h2, h3, h4⟩
  · exact .inl ⟨i, j, h1, h2, q F H M _ _ Ext.refl st (.d (.bl _)) h3⟩
  · exact .inr ⟨d, xs, h1, h2, h3, q F H M _ _ Ext.refl st (.d (.bl _)) h4⟩
section
variable {X : Cx} {W : WX} {k : Nat} {e a b c : Expr} {es : List Expr} {pos : Pos} {A B C : AE} {As : AA} {s : S}
theorem qe_lt (ha : QE X W a A) (hb : QE X W b B) : QE X W (.Compare a [.Lt] [b] pos) (qOp oLt A B) := qe_cmp op_lt (sI0 fun _ _ _ => .d (.bl _)) ha hb (nomark _)
theorem qe_le (ha : QE X W a A) (hb : QE X W b B) : QE X W (.Compare a [.LtE] [b] pos) (qOp oLe A B) := qe_cmp op_le (sI0 fun _ _ _ => .d (.bl _)) ha hb (nomark _)
theorem qe_gt (ha : QE X W a A) (hb : QE X W b B) : QE X W (.Compare a [.Gt] [b] pos) (qOp oGt A B) := qe_cmp op_gt (sI0 fun _ _ _ => .d (.bl _)) ha hb (nomark _)
theorem qe_eq (c : Cxt X W k) (ha : QE X W a A) (hb : QE X W b B) : QE X W (.Compare a [.Eq] [b] pos) (qOp oEq A B) := qe_cmp (op_eqP c.room.units) sEq ha hb (nomark _)
theorem qe_in (c : Cxt X W k) (ha : QE X W a A) (hb : QE X W b B) (hm : behindInMarks .In b = false := by first | rfl | with_unfolding_all rfl) : QE X W (.Compare a [.In] [b] pos) (qOp oIn A B) := qe_cmp (op_inP c.room.units) sIn ha hb hm
theorem qt_lt (ha : QE X W a A) (hb : QE X W b B) : QT X W (.Compare a [.Lt] [b] pos) (qTest (qOp oLt A B)) := qt_cmp op_lt (sI0 fun _ _ _ => .d (.bl _)) ha hb (nomark _)
theorem qt_gt (ha : QE X W a A) (hb : QE X W b B) : QT X W (.Compare a [.Gt] [b] pos) (qTest (qOp oGt A B)) := qt_cmp op_gt (sI0 fun _ _ _ => .d (.bl _)) ha hb (nomark _)
theorem qt_ge (ha : QE X W a A) (hb : QE X W b B) : QT X W (.Compare a [.GtE] [b] pos) (qTest (qOp oGe A B)) := qt_cmp op_ge (sI0 fun _ _ _ => .d (.bl _)) ha hb (nomark _)
theorem qt_is (ha : QE X W a A) (hb : QE X W b B) : QT X W (.Compare a [.Is] [b] pos) (qTest (qOp oIs A B)) := qt_cmp op_isN sIs ha hb (nomark _)
theorem qt_isnot (ha : QE X W a A) (hb : QE X W b B) : QT X W (.Compare a [.IsNot] [b] pos) (qTest (qOp oIsN A B)) := qt_cmp op_notN sIsN ha hb (nomark _)
theorem qt_eq (c : Cxt X W k) (ha : QE X W a A) (hb : QE X W b B) : QT X W (.Compare a [.Eq] [b] pos) (qTest (qOp oEq A B)) := qt_cmp (op_eqP c.room.units) sEq ha hb (nomark _)
theorem qt_ne (c : Cxt X W k) (ha : QE X W a A) (hb : QE X W b B) : QT X W (.Compare a [.NotEq] [b] pos) (qTest (qOp oNe A B)) := qt_cmp (op_neP c.room.units) sNe ha hb (nomark _)
theorem qt_in (c : Cxt X W k) (ha : QE X W a A) (hb : QE X W b B) (hm : behindInMarks .In b = false := by first | rfl | with_unfolding_all rfl) : QT X W (.Compare a [.In] [b] pos) (qTest (qOp oIn A B)) := qt_cmp (op_inP c.room.units) sIn ha hb hm
theorem qt_notin (c : Cxt X W k) (ha : QE X W a A) (hb : QE X W b B) (hm : behindInMarks .NotIn b = false := by first | rfl | with_unfolding_all rfl) : QT X W (.Compare a [.NotIn] [b] pos) (qTest (qOp oNotIn A B)) := qt_cmp (op_notInP c.room.units) sNotIn ha hb hm
end
/-- a op b op' c -/
def qChain (R R' : O2) (A B C : AE) : AE := fun ρ M P Z => A ρ M (fun s M1 => B ρ M1 (fun t M2 => R s t M2 fun v M3 => match v with
  | .d (.bool b) => BIf b (C ρ M3 (fun r M4 => R' t r M4 P) Z) (P (.b false) M3)
  | _ => False) Z) Z
section
variable {X : Cx} {W : WX} {k : Nat} {e a b c : Expr} {es : List Expr} {pos : Pos} {A B C : AE} {As : AA} {s : S}
theorem chain_sim {r r' : R2} {R R' : O2} (hs : OpS X.K r R) (hs' : OpS X.K r' R') {σ : L2.St} {H : Hp} {Q : VK} (h : canE X.K W (qChain R R' A B C) σ H Q) : tChain r r' (canE X.K W A) (canE X.K W B) (canE X.K W C) σ H Q := by
  obtain ⟨F, M, ρ, P, Z, st, sl, h, cv⟩ := h
  refine ⟨F, M, ρ, _, Z, st, sl, h, ⟨fun F1 H1 M1 x s e1 st1 r1 h1 => ?_, cv.z⟩⟩
  refine ⟨F1, M1, ρ, _, Z, st1, sl.mono e1.ff, h1, ⟨fun F2 H2 M2 y t e2 st2 r2 h2 => ?_, (cv.mono e1).z⟩⟩
  refine hs st2 (r1.mono e2.ff) r2 h2 fun F3 H3 M3 v u e3 st3 r3 h3 => ?_
  obtain ⟨b, rfl, rfl, h3⟩ := bool_of (X := X) (H := H) (M := M) (q := fun _ => True) r3 h3
  have e123 := e1.trans (e2.trans e3)
  refine ⟨b, rfl, ?_⟩
  cases b with
  | true =>
    refine iteT ⟨F3, M3, ρ, _, Z, st3, sl.mono e123.ff, h3, ⟨fun F4 H4 M4 w z e4 st4 r4 h4 => ?_, (cv.mono e123).z⟩⟩
    exact hs' st4 (r2.mono (e3.trans e4).ff) r4 h4 fun F5 H5 M5 v u e5 => cv.q F5 H5 M5 v u (e123.trans (e4.trans e5))
  | false => exact iteF (cv.q F3 H3 M3 _ _ e123 st3 (.d (.bl false)) h3)
theorem qe_chain {op op' : CmpOp} {r r' : R2} {R R' : O2} (ho : OpR X (compareOp op) r) (ho' : OpR X (compareOp op') r') (hs : OpS X.K r R) (hs' : OpS X.K r' R') (ha : QE X W a A) (hb : QE X W b B) (hc : QE X W c C)
    (hm : lastMarks [op, op'] [b, c] = false := by with_unfolding_all rfl) : QE X W (.Compare a [op, op'] [b, c] pos) (qChain R R' A B C) := pe_imp (pe_chain ho ho' ha hb hc hm) fun σ H Q h => chain_sim hs hs' h
theorem qe_lele (ha : QE X W a A) (hb : QE X W b B) (hc : QE X W c C) (hm : lastMarks [.LtE, .LtE] [b, c] = false := by with_unfolding_all rfl) : QE X W (.Compare a [.LtE, .LtE] [b, c] pos) (qChain oLe oLe A B C) := qe_chain op_le op_le (sI0 fun _ _ _ => .d (.bl _)) (sI0 fun _ _ _ => .d (.bl _)) ha hb hc hm
end
end Lv
set_option Elab.async false
set_option linter.all false
set_option maxRecDepth 100000
set_option maxHeartbeats 4000000
namespace Lv
open PySem PySem.Spec PyProof.Rows L2
/-- the items of a list, a tuple, a text -/
def itemsS (M : Mem) : S → Option (List S)
  | .d (.list ds) => some (ds.map .d)
  | .d (.tuple ds) => some (ds.map .d)
  | .d (.str z) => some (z.cps.toList.map fun c => .d (.str ⟨#[c]⟩))
  | .t xs => some xs
  | .v (.ref p) => match M p with
    | some (.lst xs) => some xs
    | _ => none
  | _ => none
theorem itemsS_cases {M : Mem} {s : S} {xs : List S} (h : itemsS M s = some xs) : itemsL M s = some xs ∨ itemsT s = some xs ∨ ∃ z, s = .d (.str z) ∧ xs = z.cps.toList.map fun c => .d (.str ⟨#[c]⟩) := by
  cases s with
  | d x =>
    cases x with
    | list ds => exact .inl h
    | tuple ds => exact .inr (.inl h)
    | str z => cases h; exact .inr (.inr ⟨z, rfl, rfl⟩)
    | _ => cases h
  | v u =>
    cases u with
    | ref p => exact .inl h
    | _ => cases h
  | t ys => exact .inr (.inl h)
def qISeq (A : AE) : AI := fun ρ M Pk Z => A ρ M (fun s M1 => ∃ items, itemsS M1 s = some items ∧ Pk items (fun M => itemsS M s = some items) M1) Z
def iSeq (K : PySem.W.Frag) (tl : TE) : TI := fun σ H R => tl σ H fun x H1 => (∃ a, x = .ref a ∧ (∃ xs, SqL K H1 a xs) ∧ R (Itl K a) H1) ∨ (∃ a, x = .ref a ∧ (∃ xs, SqT K H1 a xs) ∧ R (Itt K a) H1) ∨ ∃ z, x = .str z ∧ R (Its z) H1
section
variable {X : Cx} {W : WX} {k : Nat} {tg e a b c : Expr} {es : List Expr} {pos : Pos} {A B C : AE} {As : AA} {s : S}
theorem pi_seq {l : Expr} {tl : TE} (hl : PE X l tl) : PI X tg l (iSeq X.K tl) := by
  refine ⟨fun pins s σ H R I h => ?_⟩
  refine thn (hl.run pins s σ H _ I h) ?_
  rintro v s1 ⟨x, H1, I1, r1, q1⟩
  rcases q1 with ⟨a, e, ⟨xs, hq⟩, q⟩ | ⟨a, e, ⟨xs, hq⟩, q⟩ | ⟨z, e, q⟩
  · subst e
    cases r1
    obtain ⟨its, rv, p, hz⟩ := I1.list hq
    refine wpAny_pyIter_list p.isList ?_
    refine ⟨s1.heap.objs.size, [s1.heap.objs.size], _, _, H1, rfl, I1.kept (t' := s1.toks) fun b o e => Heap.get?_push_of_some _ e, turn_list a _, ⟨_, Heap.get?_push_size _ rfl, rfl, rfl⟩, fun b hb => ?_, q⟩
    have e : b = s1.heap.objs.size := by simpa using hb
    subst e
    exact I1.fpOk (Nat.le_refl _) (I1.hok.fresh (Nat.le_refl _))
  · subst e
    cases r1
    obtain ⟨its, rv, p, hz⟩ := I1.tuple hq
    refine wpAny_pyIter_tuple (show s1.heap.IsTuple a its.toArray from p) ?_
    refine ⟨s1.heap.objs.size, [s1.heap.objs.size], _, _, H1, rfl, I1.kept (t' := s1.toks) fun b o e => Heap.get?_push_of_some _ e, turn_tuple a _, ⟨_, Heap.get?_push_size _ rfl, rfl, rfl⟩, fun b hb => ?_, q⟩
    have e : b = s1.heap.objs.size := by simpa using hb
    subst e
    exact I1.fpOk (Nat.le_refl _) (I1.hok.fresh (Nat.le_refl _))
  · subst e
    obtain ⟨t, rfl⟩ := r1
    cases ha : z.cps.all (· < 128)
    · exact wpAny_pyIter_wide ha (pi_one (tk := s1.toks) I1 _ (turn_str _ z t "str_iterator" (.inr rfl)) ⟨_, Heap.get?_push_size _ rfl, rfl, rfl⟩ q)
    · exact wpAny_pyIter_ascii ha (pi_one (tk := s1.toks) I1 _ (turn_str _ z t "str_ascii_iterator" (.inl rfl)) ⟨_, Heap.get?_push_size _ rfl, rfl, rfl⟩ q)
theorem itOk_list {K : PySem.W.Frag} {F : Hp} {s : S} {a : Addr} {items : List S} {ok : Mem → Prop} (r : Rep K F (.ref a) s) (h : ∀ M, ok M → itemsL M s = some items) : ItOk K (Itl K a) items ok F := by
  refine ⟨fun i F1 H1 M x sm st hok hi => ?_, fun F1 H1 M sm st hok => ?_⟩
  · obtain ⟨a', vs, e, hq, rl⟩ := items_sq st (r.mono sm) (h M hok)
    cases e
    obtain ⟨u, hu, ru⟩ := rl.get hi
    exact ⟨⟨vs, u, hq, hu⟩, (by
      rintro v H' ⟨e, hy⟩
      subst e
      have := hy vs hq
      rw [hu] at this; cases this
      exact ⟨F1, Ext.refl, st, ru⟩)⟩
  · obtain ⟨a', vs, e, hq, rl⟩ := items_sq st (r.mono sm) (h M hok)
    cases e
    exact ⟨vs, hq, Nat.le_of_eq rl.length⟩
theorem itOk_tup {K : PySem.W.Frag} {F : Hp} {s : S} {a : Addr} {items : List S} {ok : Mem → Prop} (r : Rep K F (.ref a) s) (h : itemsT s = some items) : ItOk K (Itt K a) items ok F := by
  refine ⟨fun i F1 H1 M x sm st hok hi => ?_, fun F1 H1 M sm st hok => ?_⟩
  · obtain ⟨a', vs, e, hq, rl⟩ := items_st st (r.mono sm) h
    cases e
    obtain ⟨u, hu, ru⟩ := rl.get hi
    exact ⟨⟨vs, u, hq, hu⟩, (by
      rintro v H' ⟨e, hy⟩
      subst e
      have := hy vs hq
      rw [hu] at this; cases this
      exact ⟨F1, Ext.refl, st, ru⟩)⟩
  · obtain ⟨a', vs, e, hq, rl⟩ := items_st st (r.mono sm) h
    cases e
    exact ⟨vs, hq, Nat.le_of_eq rl.length⟩
theorem itOk_str {K : PySem.W.Frag} {F : Hp} {z : Str} {ok : Mem → Prop} : ItOk K (Its z) (z.cps.toList.map fun c => S.d (.str ⟨#[c]⟩)) ok F := by
  refine ⟨fun i F1 H1 M x sm st hok hi => ?_, fun F1 H1 M sm st hok => ?_⟩
  · rw [List.getElem?_map] at hi
    cases e : z.cps.toList[i]? with
    | none => rw [e] at hi; cases hi
    | some c =>
      rw [e] at hi; cases hi
      have e2 : z.cps[i]? = some c := by rw [← Array.getElem?_toList]; exact e
      obtain ⟨hlt, _⟩ := Array.getElem?_eq_some_iff.mp e2
      refine ⟨hlt, ?_⟩
      rintro v H' ⟨e', c', hc', hv⟩
      subst e' hv
      rw [e2] at hc'; cases hc'
      exact ⟨F1, Ext.refl, st, .d (.str _)⟩
  · show z.cps.size ≤ _
    simp
theorem qi_seq (h : QE X W e A) : QI X W tg e (qISeq A) := pi_imp (pi_seq h) (by
  rintro σ H R ⟨F, M, ρ, Pk, Z, st, sl, h, cq, cz⟩
  refine ⟨F, M, ρ, _, Z, st, sl, h, ⟨?_, cz⟩⟩
  rintro F1 H1 M1 x s e1 st1 r1 ⟨items, hi, hp⟩
  rcases itemsS_cases hi with h1 | h1 | ⟨z, h1, h2⟩
  · obtain ⟨a, vs, rfl, hq, rl⟩ := items_sq st1 r1 h1
    refine .inl ⟨a, rfl, ⟨vs, hq⟩, cq F1 H1 M1 _ items _ e1 st1 (itOk_list r1 fun M hM => ?_) hp⟩
    rcases itemsS_cases hM with g | g | ⟨z, g, _⟩
    · exact g
    · exfalso
      cases s with
      | d x => cases x with
        | tuple ds => cases h1
        | _ => cases g
      | v u => cases g
      | t ys => cases h1
    · subst g
      cases h1
  · obtain ⟨a, vs, rfl, hq, rl⟩ := items_st st1 r1 h1
    exact .inr (.inl ⟨a, rfl, ⟨vs, hq⟩, cq F1 H1 M1 _ items _ e1 st1 (itOk_tup r1 h1) hp⟩)
  · subst h1 h2
    have e2 := rep_str r1
    subst e2
    exact .inr (.inr ⟨z, rfl, cq F1 H1 M1 _ _ _ e1 st1 itOk_str hp⟩))
/-- lo, lo + 1, .. -/
def rngS (lo : Int) (n : Nat) : List S := (List.range n).map fun (i : Nat) => S.i (lo + (i : Int))
theorem rngS_len (lo : Int) (n : Nat) : (rngS lo n).length = n := by simp [rngS]
theorem rngS_get {lo : Int} {n i : Nat} {x : S} (h : (rngS lo n)[i]? = some x) : i < n ∧ x = .i (lo + (i : Int)) := by
  unfold rngS at h
  rw [List.getElem?_map] at h
  cases e : (List.range n)[i]? with
  | none => rw [e] at h; cases h
  | some j =>
    rw [e] at h; cases h
    obtain ⟨h1, h2⟩ := List.getElem?_eq_some_iff.mp e
    simp at h1 h2
    subst h2
    exact ⟨h1, rfl⟩
theorem itOk_rng {K : PySem.W.Frag} {F : Hp} {lo : Int} {n : Nat} {ok : Mem → Prop} : ItOk K (Itr lo n) (rngS lo n) ok F := by
  refine ⟨fun i F1 H1 M x sm st hok hi => ?_, fun F1 H1 M sm st hok => by rw [rngS_len]; exact Nat.le_refl _⟩
  obtain ⟨h1, rfl⟩ := rngS_get hi
  refine ⟨h1, ?_⟩
  rintro v H' ⟨e, hv⟩
  subst e hv
  exact ⟨F1, Ext.refl, st, .d (.int _)⟩
def qIRng1 (As : AA) : AI := fun ρ M Pk Z => As ρ M (fun ss M1 => match ss with
  | [.d (.int j)] => -(2 ^ 62) ≤ j ∧ j < 2 ^ 62 ∧ Pk (rngS 0 j.toNat) (fun _ => True) M1
  | _ => False) Z
theorem qi_rng1 {p : Pos} (hg : Gl X "range") (hm : X.mg "range" = none) (ha : QAr X W [a] As) (hs : starEach [a] X.env = [(false, eval a X.env)] := by rfl) : QI X W tg (.Call (.Name "range" p) [a] [] pos) (qIRng1 As) := pi_imp (pi_range1 hg hm ha hs) (by
  rintro σ H R ⟨F, M, ρ, Pk, Z, st, sl, h, cq, cz⟩
  refine ⟨F, M, ρ, _, Z, st, sl, h, ⟨fun F1 H1 M1 xs ss e1 st1 r1 h1 => ?_, cz⟩⟩
  split at h1
  · obtain ⟨h2, h3, h4⟩ := h1
    cases r1.1 with
    | cons r rr =>
      cases rr
      have e := rep_int r
      subst e
      exact ⟨_, rfl, h2, h3, cq F1 H1 M1 _ _ _ e1 st1 itOk_rng h4⟩
  · exact h1.elim)
theorem qe_lcE {En : List S → Mem → K2 → Prop} {kk : Nat} {I : AI} {G : AG} {TT : AT} {iter : Expr} {ifs : List Expr} {scope : Scope} {own : List (Str × Nat)} (hE : EndOk X.K En) (cx : Cxt X W kk) (hi : QI X W tg iter I) (ok : BlkOk X.N X.env.scope scope own)
    (hg : ∀ (s : Shared) (H : Hp) (C : Addr) (cl : List (Str × Addr)) (fp : List Addr), QG (X.blk s H scope (compEnvC scope cl C X.env) fp) W0 tg G (own.map (·.2)))
    (ht : ∀ (s : Shared) (H : Hp) (C : Addr) (cl : List (Str × Addr)) (fp : List Addr), PTs (X.blk s H scope (compEnvC scope cl C X.env) fp) ifs (canT X.K W0 TT))
    (he : ∀ (s : Shared) (H : Hp) (C : Addr) (cl : List (Str × Addr)) (fp : List Addr), Cxt (X.blk s H scope (compEnvC scope cl C X.env) fp) W0 kk → QE (X.blk s H scope (compEnvC scope cl C X.env) fp) W0 e A) (hs : ∀ x, foldedSetIterable iter X.env x = pure x := by intro _; rfl) :
    QE X W (.ListComp e [⟨tg, iter, ifs, 0⟩] scope pos) (qLc En I G TT A (own.map (·.2))) :=
  pe_imp (pe_lc (own := own) cx.calm cx.nd hi ok hg ht (fun s H C cl fp => he s H C cl fp cx.blk) hs) fun σ H Q h => lc_sim hE h
def qYes : AT := fun _ M P _ => P true M
theorem qts_nil : PTs X [] (canT X.K W qYes) := ⟨(by rintro pins s σ H Q I ⟨F, M, ρ, P, Z, st, sl, h, cv⟩; exact pts_nil.run pins s σ H Q I (cv.q F H M true true Ext.refl st rfl h))⟩
theorem qts_one {T : AT} (h : QT X W e T) : PTs X [e] (canT X.K W T) := pts_one h
theorem qs_setLc {En : List S → Mem → K2 → Prop} {kk i : Nat} {y : Str} {py spos : Pos} {I : AI} {G : AG} {TT : AT} {iter : Expr} {ifs : List Expr} {scope : Scope} {own : List (Str × Nat)} (hE : EndOk X.K En) (cx : Cxt X W kk) (hi : QI X W tg iter I) (ok : BlkOk X.N X.env.scope scope own)
    (hg : ∀ (s : Shared) (H : Hp) (C : Addr) (cl : List (Str × Addr)) (fp : List Addr), QG (X.blk s H scope (compEnvC scope cl C X.env) fp) W0 tg G (own.map (·.2)))
    (ht : ∀ (s : Shared) (H : Hp) (C : Addr) (cl : List (Str × Addr)) (fp : List Addr), PTs (X.blk s H scope (compEnvC scope cl C X.env) fp) ifs (canT X.K W0 TT))
    (he : ∀ (s : Shared) (H : Hp) (C : Addr) (cl : List (Str × Addr)) (fp : List Addr), Cxt (X.blk s H scope (compEnvC scope cl C X.env) fp) W0 kk → QE (X.blk s H scope (compEnvC scope cl C X.env) fp) W0 e A)
    (hy : X.N[i]? = some y := by rfl) (hyl : X.env.scope.names.lookup y = some .local := by rfl) (hsw : swapsWith (.ListComp e [⟨tg, iter, ifs, 0⟩] scope pos) (some (.Name y py)) spos.line X.env = pure true := by exact sw_true rfl rfl rfl (by decide +kernel)) (hs : ∀ x, foldedSetIterable iter X.env x = pure x := by intro _; rfl) :
    QS X W (.Assign [.Name y py] (.ListComp e [⟨tg, iter, ifs, 0⟩] scope pos) spos) (qAsg (qLc En I G TT A (own.map (·.2))) (qName i)) :=
  ps_imp (ps_setLc (own := own) cx.calm cx.nd hy hyl hsw hi ok hg ht (fun s H C cl fp => he s H C cl fp cx.blk) hs) (by
  rintro D σ H ⟨F, M, ρ, D2, st, sl, h, cv⟩
  refine lc_sim hE ⟨F, M, ρ, _, _, st, sl, h, ⟨fun F1 H1 M1 x s e1 st1 r1 h1 => ?_, cv.z sl⟩⟩
  exact cv.nx F1 H1 M1 _ _ e1 st1 ((sl.mono e1.ff).set r1) h1)
end
end Lv
set_option Elab.async false
set_option linter.all false
set_option maxRecDepth 100000
set_option maxHeartbeats 4000000
namespace Lv
open PySem PySem.Spec PyProof.Rows L2
theorem atI_map {α β : Type} (f : α → β) (xs : List α) (i : Int) : atI (xs.map f) i = (atI xs i).map f := by
  unfold atI
  rw [List.length_map]
  cases ixN xs.length i with
  | none => rfl
  | some j =>
    show (xs.map f)[j]? = (xs[j]?).map f
    rw [List.getElem?_map]
def lookS {κ : Type} [DecidableEq κ] (kvs : List (κ × S)) (k : κ) : Option S := (kvs.find? fun kv => decide (kv.1 = k)).map (·.2)
def oIx : O2 := fun s t M P => match s, t with
  | .d (.list ds), .d (.int i) => ∃ x, atI ds i = some x ∧ P (.d x) M
  | .d (.tuple ds), .d (.int i) => ∃ x, atI ds i = some x ∧ P (.d x) M
  | .t xs, .d (.int i) => ∃ x, atI xs i = some x ∧ P x M
  | .d (.str z), .d (.int i) => z.length ≤ sizeLine ∧ ∃ c, atI z.cps.toList i = some c ∧ P (.s ⟨#[c]⟩) M
  | .v (.ref p), .d (.int i) => ∃ xs x, M p = some (.lst xs) ∧ atI xs i = some x ∧ P x M
  | _, _ => False
theorem atI_rep {K : PySem.W.Frag} {F : Hp} {vs : List V} {xs : List S} {i : Int} {x : S} (r : RepL K F vs xs) (h : atI xs i = some x) : ∃ u, atI vs i = some u ∧ Rep K F u x := by
  unfold atI at h ⊢
  rw [r.length]
  cases e : ixN xs.length i with
  | none => rw [e] at h; cases h
  | some j =>
    rw [e] at h
    exact r.get h
theorem sIx {K : PySem.W.Frag} : OpS K (rIx K) oIx := by
  intro F H M x y s t P Q st rx ry h q
  unfold oIx at h
  split at h
  · obtain ⟨x, h1, h2⟩ := h
    have e2 := rep_int ry
    subst e2
    obtain ⟨a, vs, rfl, hq, d⟩ := rep_list rx
    obtain ⟨u, hu, ru⟩ := atI_rep (repL_of d) (x := .d x) (by rw [atI_map, h1]; rfl)
    exact .inl ⟨a, vs, _, u, rfl, rfl, st.sub.seq hq, hu, q F H M _ _ Ext.refl st ru h2⟩
  · obtain ⟨x, h1, h2⟩ := h
    have e2 := rep_int ry
    subst e2
    obtain ⟨a, vs, rfl, hq, d⟩ := rep_tuple rx
    obtain ⟨u, hu, ru⟩ := atI_rep (repL_of d) (x := .d x) (by rw [atI_map, h1]; rfl)
    exact .inr (.inl ⟨a, vs, _, u, rfl, rfl, sameT st.sub hq, hu, q F H M _ _ Ext.refl st ru h2⟩)
  · obtain ⟨x, h1, h2⟩ := h
    have e2 := rep_int ry
    subst e2
    cases rx with
    | t hq d =>
      obtain ⟨u, hu, ru⟩ := atI_rep d h1
      exact .inr (.inl ⟨_, _, _, u, rfl, rfl, sameT st.sub hq, hu, q F H M _ _ Ext.refl st ru h2⟩)
  · obtain ⟨hz, c, h1, h2⟩ := h
    have e1 := rep_str rx
    have e2 := rep_int ry
    subst e1 e2
    exact .inr (.inr ⟨_, _, c, rfl, rfl, hz, h1, q F H M _ _ Ext.refl st (.d (.str _)) h2⟩)
  · obtain ⟨xs, x, h1, h2, h3⟩ := h
    have e1 := rep_v rx
    have e2 := rep_int ry
    subst e1 e2
    obtain ⟨_, ho, h4, vs, rfl, h6⟩ := st.mem _ _ h1
    obtain ⟨u, hu, ru⟩ := atI_rep h6 h2
    exact .inl ⟨_, vs, _, u, rfl, rfl, SqL.of h4, hu, q F H M _ _ Ext.refl st ru h3⟩
  · exact h.elim
section
variable {X : Cx} {W : WX} {k : Nat} {tg e a b c : Expr} {es : List Expr} {pos : Pos} {A B C : AE} {As : AA} {s : S}
theorem qe_ix (ha : QE X W a A) (hb : QE X W b B) (hs : PlainIx b := by exact fun _ _ => rfl) : QE X W (.Subscript a b pos) (qOp oIx A B) := pe_imp (pe_ix ix_seq ha hb hs) fun σ H Q h => op_sim sIx h
end
abbrev AO := Rl → Mem → (Option Int → Mem → Prop) → X2 → Prop
abbrev canO (K : PySem.W.Frag) (W : WX) (A : AO) : TO := can K (fun _ b c => b = c) W A
abbrev QO (X : Cx) (W : WX) (e : Option Expr) (A : AO) : Prop := PO X e (canO X.K W A)
def qPart (A : AE) : AO := fun ρ M P Z => A ρ M (fun s M1 => match s with
  | .d (.int i) => P (some i) M1
  | _ => False) Z
def qNoPart : AO := fun _ M P _ => P none M
def cutD {α : Type} (xs : List α) (lo hi : Option Int) : List α := (xs.drop (HT.sIx xs.length 0 lo)).take (HT.sIx xs.length xs.length hi - HT.sIx xs.length 0 lo)
def oSl (s : S) (lo hi : Option Int) (M : Mem) (P : K2) : Prop := match s with
  | .d (.str z) => z.length ≤ sizeLine ∧ P (.s (cutS z lo hi)) M
  | .d (.tuple ds) => P (.d (.tuple (cutD ds lo hi))) M
  | s => ∃ ds, DL M s ds ∧ P (.d (.list (cutD ds lo hi))) M
def qSl (A : AE) (L U : AO) : AE := fun ρ M P Z => A ρ M (fun s M1 => L ρ M1 (fun l M2 => U ρ M2 (fun u M3 => oSl s l u M3 P) Z) Z) Z
theorem SlR.or {X : Cx} {r r' : V → Option Int → Option Int → Hp → VK → Prop} (h : L2.SlR X r) (h' : L2.SlR X r') : L2.SlR X (fun x lo hi H Q => r x lo hi H Q ∨ r' x lo hi H Q) := by
  intro pins s σ H x v vl vu lo hi sl Q I rx hs pl pu q
  rcases q with q | q
  · exact h pins s σ H x v vl vu lo hi sl Q I rx hs pl pu q
  · exact h' pins s σ H x v vl vu lo hi sl Q I rx hs pl pu q
def rSlAll (K : PySem.W.Frag) : V → Option Int → Option Int → Hp → VK → Prop := fun x lo hi H Q => rSlS x lo hi H Q ∨ (rSlA K x lo hi H Q ∨ rSlL K x lo hi H Q)
theorem sl_all {X : Cx} : L2.SlR X (rSlAll X.K) := SlR.or sl_str (SlR.or sl_tupA sl_list)
theorem dp_cut {K : PySem.W.Frag} {F : Hp} {vs : List V} {ds : List PyData} {lo hi : Option Int} (d : DpAll K F vs ds) : DpAll K F (cutV vs lo hi) (cutD ds lo hi) := by
  unfold cutV cutD
  rw [dpLen d]
  refine dpAll_of ?_
  rw [List.map_take, List.map_drop]
  exact ((repL_of d).drop _).take _
theorem sSl {K : PySem.W.Frag} {F H : Hp} {M : Mem} {x : V} {s : S} {lo hi : Option Int} {P : K2} {Q : VK} (st : Stt K F H M) (rx : Rep K F x s) (h : oSl s lo hi M P) (q : ∀ F' H' M' v u, Ext F H M F' H' M' → Stt K F' H' M' → Rep K F' v u → P u M' → Q v H') :
    rSlAll K x lo hi H Q := by
  unfold oSl at h
  split at h
  · have e1 := rep_str rx
    subst e1
    exact .inl ⟨_, rfl, h.1, q F H M _ _ Ext.refl st (.d (.str _)) h.2⟩
  · rename_i ds
    obtain ⟨a, vs, rfl, hq, d⟩ := rep_tuple rx
    refine .inr (.inl ⟨a, vs, rfl, sameT st.sub hq, fun hw => ?_, fun hw p hp => newT st (dp_cut d) hp h q⟩)
    have e : cutD ds lo hi = ds := by
      unfold cutD
      rw [← dpLen d, hw.1, hw.2, List.drop_zero, dpLen d, Nat.sub_zero, List.take_length]
    rw [e] at h
    exact q F H M _ _ Ext.refl st rx h
  · obtain ⟨ds, h1, h2⟩ := h
    obtain ⟨a, vs, rfl, hq, d⟩ := h1.sq st rx
    exact .inr (.inr ⟨a, vs, rfl, hq, fun p hp => newL st (dp_cut d) hp h2 q⟩)
section
variable {X : Cx} {W : WX} {k : Nat} {tg e a b c : Expr} {lo hi : Option Expr} {es : List Expr} {pos p2 : Pos} {A B C : AE} {L U : AO} {As : AA} {s : S}
theorem qo_none : QO X W none qNoPart := ⟨(by rintro pins s σ H Q I ⟨F, M, ρ, P, Z, st, sl, h, cv⟩; exact po_none.run pins s σ H Q I (cv.q F H M none none Ext.refl st rfl h))⟩
theorem qo_some (h : QE X W e A) : QO X W (some e) (qPart A) := ⟨(by
      rintro pins s σ H Q I ⟨F, M, ρ, P, Z, st, sl, hA, cv⟩
      exact (po_some h).run pins s σ H Q I ⟨F, M, ρ, _, Z, st, sl, hA, ⟨fun F1 H1 M1 x s e1 st1 r1 h1 => by
          split at h1
          · have e := rep_int r1
            subst e
            exact ⟨_, rfl, cv.q F1 H1 M1 _ _ e1 st1 rfl h1⟩
          · exact h1.elim, cv.z⟩⟩)⟩
theorem qe_sl (ha : QE X W a A) (hl : QO X W lo L) (hu : QO X W hi U) : QE X W (.Subscript a (.Slice lo hi none p2) pos) (qSl A L U) := pe_imp (pe_slice sl_all ha hl hu) (by
  rintro σ H Q ⟨F, M, ρ, P, Z, st, sl, h, cv⟩
  refine ⟨F, M, ρ, _, Z, st, sl, h, ⟨fun F1 H1 M1 x s e1 st1 r1 h1 => ?_, cv.z⟩⟩
  refine ⟨F1, M1, ρ, _, Z, st1, sl.mono e1.ff, h1, ⟨fun F2 H2 M2 l l' e2 st2 rl h2 => ?_, (cv.mono e1).z⟩⟩
  subst rl
  refine ⟨F2, M2, ρ, _, Z, st2, sl.mono (e1.trans e2).ff, h2, ⟨fun F3 H3 M3 u u' e3 st3 ru h3 => ?_, (cv.mono (e1.trans e2)).z⟩⟩
  subst ru
  exact sSl st3 (r1.mono (e2.trans e3).ff) h3 fun F' H' M' v u e4 => cv.q F' H' M' v u (((e1.trans e2).trans e3).trans e4))
end
def qGSubL (O I : AE) : AG := fun v ρ M N Z => O ρ M (fun s M1 => I ρ M1 (fun t M2 => match s, t with
  | .v (.ref p), .d (.int i) => ∃ xs j, M2 p = some (.lst xs) ∧ ixN xs.length i = some j ∧ N ρ (mput M2 p (.lst (xs.set j v)))
  | _, _ => False) Z) Z
section
variable {X : Cx} {W : WX} {k : Nat} {tg e a b c : Expr} {lo hi : Option Expr} {es : List Expr} {pos p2 : Pos} {A B C : AE} {L U : AO} {As : AA} {s : S}
/-- targets that may let an error out of their own expressions are told by W too; here the error's way is closed -/
theorem qg_subL (ha : QE X W0 a A) (hb : QE X W0 b B) (hp : PG X (.Subscript a b pos) (gSub (canE X.K W0 A) (canE X.K W0 B) rSetL)) : QG X W (.Subscript a b pos) (fun v ρ M N _ => qGSubL A B v ρ M N noX) [] := pg_imp hp (by
  rintro v σ H Q ⟨F, M, s, ρ, N, Z, st, sl, r, h, cv⟩
  refine ⟨F, M, ρ, _, noX, st, sl, h, ⟨fun F1 H1 M1 x t e1 st1 r1 h1 => ?_, fun _ _ _ _ _ _ _ _ _ z => z⟩⟩
  refine ⟨F1, M1, ρ, _, noX, st1, sl.mono e1.ff, h1, ⟨fun F2 H2 M2 y u e2 st2 r2 h2 => ?_, fun _ _ _ _ _ _ _ _ _ z => z⟩⟩
  split at h2
  · obtain ⟨xs, j, hm, hj, hn⟩ := h2
    have q1 := rep_v r1
    have q2 := rep_int r2
    subst q1 q2
    obtain ⟨_, ho, h4, vs, rfl, h6⟩ := st2.mem _ _ hm
    have e12 := e1.trans e2
    obtain ⟨st3, e3⟩ := st2.setM (o := .lst (vs.set j v)) (mo := .lst (xs.set j s)) hm ⟨_, rfl, RepL.set (r.mono e12.ff) j h6⟩
    exact ⟨_, vs, _, j, rfl, rfl, h4, by rw [h6.length]; exact hj, cv _ _ _ σ ρ (e12.trans e3) st3 (sl.mono (e12.trans e3).ff) rfl hn⟩
  · exact h2.elim)
end
def lenOf (M : Mem) : S → Option Nat
  | .d (.str z) => some z.length
  | .d (.list ds) => some ds.length
  | .d (.tuple ds) => some ds.length
  | .t xs => some xs.length
  | .v (.ref p) => match M p with
    | some (.lst xs) => some xs.length
    | some (.dk l) => some l.length
    | _ => none
  | _ => none
def cLen : C2 := fun ss M P => match ss with
  | [.d (.str z)] => z.length ≤ sizeLine ∧ P (.i z.length) M
  | [s] => ∃ n, lenOf M s = some n ∧ P (.i n) M
  | _ => False
def rLenA (K : PySem.W.Frag) : List V → Hp → VK → Prop := fun xs H Q => (∃ x n, xs = [x] ∧ LenV K x H n ∧ Q (.int n) H) ∨ (∃ a kvs, xs = [V.ref a] ∧ H a = some (.dK kvs) ∧ Q (.int kvs.length) H)
theorem cr_lenA {X : Cx} : CallR X (.builtin "len") (rLenA X.K) := CallR.or call_len call_lenD
theorem sLen {K : PySem.W.Frag} : CallS K (rLenA K) cLen := by
  intro F H M xs ss P Q st rl h q
  unfold cLen at h
  split at h
  · cases rl with
    | cons r rr =>
      cases rr
      have e := rep_str r
      subst e
      exact .inl ⟨_, _, rfl, ⟨h.1, rfl⟩, q F H M _ _ Ext.refl st (.d (.int _)) h.2⟩
  · obtain ⟨n, h1, h2⟩ := h
    rename_i s hs
    cases rl with
    | cons r rr =>
      cases rr
      cases s with
      | d x =>
        cases x with
        | str z => exact absurd rfl (hs z)
        | list ds =>
          cases h1
          obtain ⟨a, vs, rfl, hq, d⟩ := rep_list r
          exact .inl ⟨_, _, rfl, .inl ⟨vs, st.sub.seq hq, rfl⟩, q F H M _ _ Ext.refl st (.d (by rw [dpLen d]; exact .int _)) h2⟩
        | tuple ds =>
          cases h1
          obtain ⟨a, vs, rfl, hq, d⟩ := rep_tuple r
          exact .inl ⟨_, _, rfl, .inr ⟨vs, sameT st.sub hq, rfl⟩, q F H M _ _ Ext.refl st (.d (by rw [dpLen d]; exact .int _)) h2⟩
        | _ => cases h1
      | t ys =>
        cases h1
        cases r with
        | t hq d => exact .inl ⟨_, _, rfl, .inr ⟨_, sameT st.sub hq, rfl⟩, q F H M _ _ Ext.refl st (.d (by rw [d.length]; exact .int _)) h2⟩
      | v w =>
        rw [rep_v r]
        clear r
        cases w with
        | ref p =>
          unfold lenOf at h1
          dsimp only at h1
          cases e : M p with
          | none => rw [e] at h1; cases h1
          | some o =>
            rw [e] at h1
            obtain ⟨_, ho, h4, h5⟩ := st.mem _ _ e
            cases o with
            | lst ys =>
              cases h1
              obtain ⟨vs, rfl, h6⟩ := h5
              exact .inl ⟨_, _, rfl, .inl ⟨vs, SqL.of h4, rfl⟩, q F H M _ _ Ext.refl st (.d (by rw [h6.length]; exact .int _)) h2⟩
            | dk l =>
              cases h1
              obtain ⟨vs, rfl, h6⟩ := h5
              exact .inr ⟨_, _, rfl, h4, q F H M _ _ Ext.refl st (.d (by rw [h6.length]; exact .int _)) h2⟩
            | _ => cases h1
        | _ => cases h1
  · exact h.elim
def cListD : C2 := fun ss M P => match ss with
  | [s] => ∃ ds, (DL M s ds ∨ s = .d (.tuple ds)) ∧ P (.d (.list ds)) M
  | _ => False
theorem sListD {K : PySem.W.Frag} : CallS K (fun xs H Q => ∃ p ys, xs = [.ref p] ∧ (SqL K H p ys ∨ SqT K H p ys) ∧ ∀ l, H l = none → Q (.ref l) (upd H l (.lst ys))) cListD := by
  intro F H M xs ss P Q st rl h q
  unfold cListD at h
  split at h
  · obtain ⟨xs, h1, h2⟩ := h
    cases rl with
    | cons r rr =>
      cases rr
      rcases h1 with h1 | h1
      · obtain ⟨a, vs, rfl, hq, d⟩ := h1.sq st r
        exact ⟨a, vs, rfl, .inl hq, fun l hl => newL st d hl h2 q⟩
      · subst h1
        obtain ⟨a, vs, rfl, hq, d⟩ := rep_tuple r
        exact ⟨a, vs, rfl, .inr (sameT st.sub hq), fun l hl => newL st d hl h2 q⟩
  · exact h.elim
/-- tuple(xs) of data -/
def cTuple : C2 := fun ss M P => match ss with
  | [.d (.tuple ds)] => P (.d (.tuple ds)) M
  | [s] => ∃ ds, DL M s ds ∧ P (.d (.tuple ds)) M
  | _ => False
theorem sTuple {K : PySem.W.Frag} : CallS K (fun xs H Q => ∃ p ys, xs = [.ref p] ∧ ((SqL K H p ys ∧ ∀ l, H l = none → Q (.ref l) (upd H l (.tup ys))) ∨ (SqT K H p ys ∧ Q (.ref p) H))) cTuple := by
  intro F H M xs ss P Q st rl h q
  unfold cTuple at h
  split at h
  · cases rl with
    | cons r rr =>
      cases rr
      obtain ⟨a, vs, rfl, hq, d⟩ := rep_tuple r
      exact ⟨a, vs, rfl, .inr ⟨sameT st.sub hq, q F H M _ _ Ext.refl st r h⟩⟩
  · obtain ⟨ds, h1, h2⟩ := h
    cases rl with
    | cons r rr =>
      cases rr
      obtain ⟨a, vs, rfl, hq, d⟩ := h1.sq st r
      exact ⟨a, vs, rfl, .inl ⟨hq, fun l hl => newT st d hl h2 q⟩⟩
  · exact h.elim
def cI2 (g : Int → Int → Int) : C2 := fun ss M P => match ss with
  | [.d (.int i), .d (.int j)] => P (.i (g i j)) M
  | _ => False
theorem sI2 {K : PySem.W.Frag} {g : Int → Int → Int} : CallS K (fun xs H Q => ∃ i j, xs = [.int i, .int j] ∧ Q (.int (g i j)) H) (cI2 g) := by
  intro F H M xs ss P Q st rl h q
  unfold cI2 at h
  split at h
  · cases rl with
    | cons r rr =>
      cases rr with
      | cons r' rr =>
        cases rr
        have e := rep_int r
        have e' := rep_int r'
        subst e e'
        exact ⟨_, _, rfl, q F H M _ _ Ext.refl st (.d (.int _)) h⟩
  · exact h.elim
abbrev cMax : C2 := cI2 fun i j => if j > i then j else i
/-- all, any of a list of truths -/
def boolsD (bs : List Bool) : List PyData := bs.map .bool
def cAll : C2 := fun ss M P => match ss with
  | [s] => ∃ bs, DL M s (boolsD bs) ∧ P (.b (bs.all id)) M
  | _ => False
theorem dp_bools {K : PySem.W.Frag} {F : Hp} : ∀ {bs : List Bool} {vs : List V}, DpAll K F vs (boolsD bs) → vs = bs.map V.bl
  | [], _, h => by cases h; rfl
  | b :: bs, _, h => by
    cases h with
    | cons h1 h2 =>
      cases h1
      rw [dp_bools h2]; rfl
theorem dp_strs {K : PySem.W.Frag} {F : Hp} : ∀ {bs : List Str} {vs : List V}, DpAll K F vs (bs.map PyData.str) → vs = bs.map V.str
  | [], _, h => by cases h; rfl
  | b :: bs, _, h => by
    cases h with
    | cons h1 h2 =>
      cases h1
      rw [dp_strs h2]; rfl
theorem of_strs {K : PySem.W.Frag} {F : Hp} : ∀ (bs : List Str), DpAll K F (bs.map V.str) (bs.map PyData.str)
  | [] => .nil
  | b :: bs => .cons (.str b) (of_strs bs)
theorem of_ints {K : PySem.W.Frag} {F : Hp} : ∀ (bs : List Int), DpAll K F (bs.map V.int) (bs.map PyData.int)
  | [] => .nil
  | b :: bs => .cons (.int b) (of_ints bs)
theorem sAll {K : PySem.W.Frag} : CallS K (rAll K) cAll := by
  intro F H M xs ss P Q st rl h q
  unfold cAll at h
  split at h
  · obtain ⟨bs, h1, h2⟩ := h
    cases rl with
    | cons r rr =>
      cases rr
      obtain ⟨a, vs, rfl, hq, d⟩ := h1.sq st r
      rw [dp_bools d] at hq
      exact ⟨a, bs, rfl, hq, q F H M _ _ Ext.refl st (.d (.bl _)) h2⟩
  · exact h.elim
inductive Kd where
  | non | bl | int | str | lst | tup | dic
  deriving DecidableEq
def Kd.nm : Kd → String
  | .non => "NoneType"
  | .bl => "bool"
  | .int => "int"
  | .str => "str"
  | .lst => "list"
  | .tup => "tuple"
  | .dic => "dict"
section
variable {X : Cx} {W : WX} {k : Nat} {tg e a b c : Expr} {lo hi : Option Expr} {es : List Expr} {pos p p2 : Pos} {A B C : AE} {L U : AO} {As : AA} {s : S}
theorem qe_len (hg : Gl X "len") (hm : X.mg "len" = none) (ha : QAr X W [a] As) (he : starEach [a] X.env = (false, eval a X.env) :: starEach [] X.env := by rfl) (hpl : (backTo pos (starEach [] X.env)).any (·.1) = false := by rfl) : QE X W (.Call (.Name "len" p) [a] [] pos) (qCB cLen As) :=
  qe_callB cr_lenA sLen hg hm PySem.boot_len ha (by decide) (by decide) he hpl
theorem qe_listD (hg : Gl X "list") (hm : X.mg "list" = none) (ha : QAr X W [a] As) (he : starEach [a] X.env = (false, eval a X.env) :: starEach [] X.env := by rfl) (hpl : (backTo pos (starEach [] X.env)).any (·.1) = false := by rfl) : QE X W (.Call (.Name "list" p) [a] [] pos) (qCB cListD As) :=
  qe_callTy call_list_of sListD hg hm (by decide +kernel) ha (by decide) (by decide) he hpl
theorem qe_tuple (hg : Gl X "tuple") (hm : X.mg "tuple" = none) (ha : QAr X W [a] As) (he : starEach [a] X.env = (false, eval a X.env) :: starEach [] X.env := by rfl) (hpl : (backTo pos (starEach [] X.env)).any (·.1) = false := by rfl) : QE X W (.Call (.Name "tuple" p) [a] [] pos) (qCB cTuple As) :=
  qe_callTy call_tuple_of sTuple hg hm (by decide +kernel) ha (by decide) (by decide) he hpl
theorem qe_max2 (cx : Cxt X W k) (hg : Gl X "max") (hm : X.mg "max" = none) (ha : QAr X W [a, b] As) (he : starEach [a, b] X.env = (false, eval a X.env) :: starEach [b] X.env := by rfl) (hpl : (backTo pos (starEach [b] X.env)).any (·.1) = false := by rfl) : QE X W (.Call (.Name "max" p) [a, b] [] pos) (qCB cMax As) :=
  qe_callB (call_max2 cx.calm) sI2 hg hm (by decide +kernel) ha (by decide) (by decide) he hpl
theorem qe_all (cx : Cxt X W k) (hg : Gl X "all") (hm : X.mg "all" = none) (ha : QAr X W [a] As) (he : starEach [a] X.env = (false, eval a X.env) :: starEach [] X.env := by rfl) (hpl : (backTo pos (starEach [] X.env)).any (·.1) = false := by rfl) : QE X W (.Call (.Name "all" p) [a] [] pos) (qCB cAll As) :=
  qe_callB (cr_all cx.calm) sAll hg hm (by decide +kernel) ha (by decide) (by decide) he hpl
end
end Lv
set_option Elab.async false
set_option linter.all false
set_option maxRecDepth 100000
set_option maxHeartbeats 4000000
namespace Lv
open PySem PySem.Spec PyProof.Rows L2
abbrev M2r := S → List S → Mem → K2 → Prop
def MtS (K : PySem.W.Frag) (r : V → List V → Hp → VK → Prop) (R : M2r) : Prop := ∀ {F H : Hp} {M : Mem} {x : V} {xs : List V} {s : S} {ss : List S} {P : K2} {Q : VK}, Stt K F H M → Rep K F x s → RepL K F xs ss → R s ss M P →
  (∀ F' H' M' v u, Ext F H M F' H' M' → Stt K F' H' M' → Rep K F' v u → P u M' → Q v H') → r x xs H Q
def isL (M : Mem) (s : S) : Prop := ∃ xs, itemsL M s = some xs
def qBM (R : M2r) (A : AE) (As : AA) : AE := fun ρ M P Z => A ρ M (fun s M1 => isL M1 s ∧ As ρ M1 (fun ss M2 => R s ss M2 P) Z) Z
def qBM0 (R : M2r) (A : AE) : AE := fun ρ M P Z => A ρ M (fun s M1 => isL M1 s ∧ R s [] M1 P) Z
def mAppend : M2r := fun s ss M P => match s, ss with
  | .v (.ref p), [y] => ∃ xs, M p = some (.lst xs) ∧ xs.length < sizeLine ∧ P .n (mput M p (.lst (xs ++ [y])))
  | _, _ => False
def mInsert : M2r := fun s ss M P => match s, ss with
  | .v (.ref p), [.d (.int i), y] => ∃ xs, M p = some (.lst xs) ∧ xs.length < sizeLine ∧ 0 ≤ i ∧ i < 2 ^ 63 ∧ P .n (mput M p (.lst (xs.take i.toNat ++ [y] ++ xs.drop i.toNat)))
  | _, _ => False
def mPop : M2r := fun s ss M P => match s, ss with
  | .v (.ref p), [] => ∃ xs y, M p = some (.lst xs) ∧ xs[xs.length - 1]? = some y ∧ P y (mput M p (.lst xs.dropLast))
  | _, _ => False
def mPopAt : M2r := fun s ss M P => match s, ss with
  | .v (.ref p), [.d (.int i)] => ∃ xs k y, M p = some (.lst xs) ∧ -(2 ^ 63) ≤ i ∧ i < 2 ^ 63 ∧ seqIndex? i xs.length = some k ∧ xs[k]? = some y ∧ P y (mput M p (.lst (xs.eraseIdx k)))
  | _, _ => False
section
variable {K : PySem.W.Frag}
theorem sAppend : MtS K rAppend mAppend := by
  intro F H M x xs s ss P Q st r rl h q
  unfold mAppend at h
  split at h
  · obtain ⟨xs, hm, hz, h⟩ := h
    rw [rep_v r]
    cases rl with
    | cons ry rt =>
      cases rt
      obtain ⟨_, ho, hh, vs, rfl, hr⟩ := st.mem _ _ hm
      obtain ⟨st2, e2⟩ := st.setM (mo := .lst (xs ++ [_])) hm ⟨_, rfl, hr.append (.cons ry .nil)⟩
      exact ⟨_, vs, _, rfl, rfl, hh, by rw [hr.length]; exact hz, q _ _ _ _ _ e2 st2 (.d .non) h⟩
  · exact h.elim
theorem sInsert : MtS K (fun x vs H Q => ∃ (l : Addr) (xs : List V) (i : Int) (y : V), x = .ref l ∧ vs = [.int i, y] ∧ H l = some (.lst xs) ∧ xs.length < sizeLine ∧ 0 ≤ i ∧ i < 2 ^ 63 ∧
    Q .non (upd H l (.lst (xs.take i.toNat ++ [y] ++ xs.drop i.toNat)))) mInsert := by
  intro F H M x xs s ss P Q st r rl h q
  unfold mInsert at h
  split at h
  · obtain ⟨xs, hm, hz, h0, h1, h⟩ := h
    rw [rep_v r]
    cases rl with
    | cons ri rt =>
      cases rt with
      | cons ry rt =>
        cases rt
        rw [rep_int ri]
        obtain ⟨_, ho, hh, vs, rfl, hr⟩ := st.mem _ _ hm
        obtain ⟨st2, e2⟩ := st.setM (mo := .lst (xs.take _ ++ [_] ++ xs.drop _)) hm ⟨_, rfl, ((hr.take _).append (.cons ry .nil)).append (hr.drop _)⟩
        exact ⟨_, vs, _, _, rfl, rfl, hh, by rw [hr.length]; exact hz, h0, h1, q _ _ _ _ _ e2 st2 (.d .non) h⟩
  · exact h.elim
theorem sPop : MtS K rPop mPop := by
  intro F H M x xs s ss P Q st r rl h q
  unfold mPop at h
  split at h
  · obtain ⟨xs, y, hm, hy, h⟩ := h
    rw [rep_v r]
    cases rl
    obtain ⟨_, ho, hh, vs, rfl, hr⟩ := st.mem _ _ hm
    obtain ⟨u, hu, ru⟩ := hr.get hy
    obtain ⟨st2, e2⟩ := st.setM (mo := .lst xs.dropLast) hm ⟨_, rfl, hr.dropLast⟩
    exact ⟨_, vs, u, rfl, rfl, hh, by rw [hr.length]; exact hu, q _ _ _ _ _ e2 st2 (ru.mono e2.ff) h⟩
  · exact h.elim
theorem sPopAt : MtS K rPopAt mPopAt := by
  intro F H M x xs s ss P Q st r rl h q
  unfold mPopAt at h
  split at h
  · obtain ⟨xs, k, y, hm, h0, h1, hk, hy, h⟩ := h
    rw [rep_v r]
    cases rl with
    | cons ri rt =>
      cases rt
      rw [rep_int ri]
      obtain ⟨_, ho, hh, vs, rfl, hr⟩ := st.mem _ _ hm
      obtain ⟨u, hu, ru⟩ := hr.get hy
      obtain ⟨st2, e2⟩ := st.setM (mo := .lst (xs.eraseIdx k)) hm ⟨_, rfl, hr.eraseIdx k⟩
      exact ⟨_, vs, _, k, u, rfl, rfl, hh, h0, h1, by rw [hr.length]; exact hk, hu, q _ _ _ _ _ e2 st2 (ru.mono e2.ff) h⟩
  · exact h.elim
end
section
variable {X : Cx} {W : WX} {k : Nat} {tg e a b c o : Expr} {lo hi : Option Expr} {es : List Expr} {pos p p2 apos cpos : Pos} {A B C : AE} {As : AA} {s : S} {name : Str} {id : String} {r : V → List V → Hp → VK → Prop} {R : M2r}
theorem tyl_of {F H : Hp} {M : Mem} {u : V} (st : Stt X.K F H M) (rp : Rep X.K F u s) (h : isL M s) : tyV X.K "list" u H := by
  obtain ⟨xs, h⟩ := h
  obtain ⟨a, vs, rfl, hq, _⟩ := items_sq st rp h
  exact .inl ⟨rfl, vs, hq⟩
theorem qe_bm (slot : Slot "list" name id) (hty : typeOf (.builtin id) = pure (.type "method_descriptor")) (hm : MtR X id r) (hs2 : MtS X.K r R) (ho : QE X W o A) (ha : QAr X W (e :: es) As)
    (hbase : attributeBase o name X.env (eval o X.env) = eval o X.env := by rfl)
    (hfew : ((backTo cpos (starEach (e :: es) X.env)).all (fun x => !x.1) && (backToKw cpos (keywordEach [] X.env)).all (fun x => x.1.isSome)
      && decide ((e :: es).length + ([] : List Keyword).length + (if ([] : List Keyword).isEmpty then 0 else 1) < 30)) = true := by rfl)
    (hline : (apos.endLine == cpos.line) = true := by rfl) (hs : starEach (e :: es) X.env = (false, eval e X.env) :: starEach es X.env := by rfl) (hplain : (backTo cpos (starEach es X.env)).any (·.1) = false := by rfl) :
    QE X W (.Call (.Attribute o name apos) (e :: es) [] cpos) (qBM R A As) := pe_imp (pe_bm PySem.F.plainAttrs_list slot hty hm ho ha hbase hfew hline hs hplain) (by
  rintro σ H Q ⟨F, M, ρ, P, Z, st, sl, h, cv⟩
  refine ⟨F, M, ρ, _, Z, st, sl, h, ⟨fun F1 H1 M1 x s e1 st1 r1 ⟨hl, h1⟩ => ⟨tyl_of st1 r1 hl, ?_⟩, cv.z⟩⟩
  refine ⟨F1, M1, ρ, _, Z, st1, sl.mono e1.ff, h1, ⟨fun F2 H2 M2 xs ss e2 st2 r2 h2 => ?_, (cv.mono e1).z⟩⟩
  exact hs2 st2 (r1.mono e2.ff) r2.1 h2 fun F' H' M' v u e3 => cv.q F' H' M' v u (e1.trans (e2.trans e3)))
theorem qe_bm0 (slot : Slot "list" name id) (hty : typeOf (.builtin id) = pure (.type "method_descriptor")) (hm : MtR X id r) (hs2 : MtS X.K r R) (ho : QE X W o A)
    (hbase : attributeBase o name X.env (eval o X.env) = eval o X.env := by rfl) (hline : (apos.endLine == cpos.line) = true := by rfl) : QE X W (.Call (.Attribute o name apos) [] [] cpos) (qBM0 R A) := pe_imp (pe_bm0 PySem.F.plainAttrs_list slot hty hm ho hbase hline) (by
  rintro σ H Q ⟨F, M, ρ, P, Z, st, sl, h, cv⟩
  refine ⟨F, M, ρ, _, Z, st, sl, h, ⟨fun F1 H1 M1 x s e1 st1 r1 ⟨hl, h1⟩ => ⟨tyl_of st1 r1 hl, ?_⟩, cv.z⟩⟩
  exact hs2 st1 r1 .nil h1 fun F' H' M' v u e3 => cv.q F' H' M' v u (e1.trans e3))
theorem qe_append (ho : QE X W o A) (ha : QAr X W [e] As) (hbase : attributeBase o "append" X.env (eval o X.env) = eval o X.env := by rfl) (hfew : ((backTo cpos (starEach [e] X.env)).all (fun x => !x.1) && (backToKw cpos (keywordEach [] X.env)).all (fun x => x.1.isSome) && decide (([e] : List Expr).length + ([] : List Keyword).length + (if ([] : List Keyword).isEmpty then 0 else 1) < 30)) = true := by rfl) (hline : (apos.endLine == cpos.line) = true := by rfl) (hs : starEach [e] X.env = (false, eval e X.env) :: starEach [] X.env := by rfl) (hplain : (backTo cpos (starEach [] X.env)).any (·.1) = false := by rfl) :
    QE X W (.Call (.Attribute o "append" apos) [e] [] cpos) (qBM mAppend A As) := qe_bm PySem.F.slot_list_append PySem.F.type_list_append mt_append sAppend ho ha hbase hfew hline hs hplain
theorem qe_insert (ho : QE X W o A) (ha : QAr X W [a, b] As) (hbase : attributeBase o "insert" X.env (eval o X.env) = eval o X.env := by rfl) (hfew : ((backTo cpos (starEach [a, b] X.env)).all (fun x => !x.1) && (backToKw cpos (keywordEach [] X.env)).all (fun x => x.1.isSome) && decide (([a, b] : List Expr).length + ([] : List Keyword).length + (if ([] : List Keyword).isEmpty then 0 else 1) < 30)) = true := by rfl) (hline : (apos.endLine == cpos.line) = true := by rfl) (hs : starEach [a, b] X.env = (false, eval a X.env) :: starEach [b] X.env := by rfl) (hplain : (backTo cpos (starEach [b] X.env)).any (·.1) = false := by rfl) :
    QE X W (.Call (.Attribute o "insert" apos) [a, b] [] cpos) (qBM mInsert A As) := qe_bm PySem.F.slot_list_insert PySem.F.type_list_insert mt_insert sInsert ho ha hbase hfew hline hs hplain
theorem qe_popAt (ho : QE X W o A) (ha : QAr X W [e] As) (hbase : attributeBase o "pop" X.env (eval o X.env) = eval o X.env := by rfl) (hfew : ((backTo cpos (starEach [e] X.env)).all (fun x => !x.1) && (backToKw cpos (keywordEach [] X.env)).all (fun x => x.1.isSome) && decide (([e] : List Expr).length + ([] : List Keyword).length + (if ([] : List Keyword).isEmpty then 0 else 1) < 30)) = true := by rfl) (hline : (apos.endLine == cpos.line) = true := by rfl) (hs : starEach [e] X.env = (false, eval e X.env) :: starEach [] X.env := by rfl) (hplain : (backTo cpos (starEach [] X.env)).any (·.1) = false := by rfl) :
    QE X W (.Call (.Attribute o "pop" apos) [e] [] cpos) (qBM mPopAt A As) := qe_bm PySem.F.slot_list_pop PySem.F.type_list_pop mt_popAt sPopAt ho ha hbase hfew hline hs hplain
theorem qe_pop (ho : QE X W o A) (hbase : attributeBase o "pop" X.env (eval o X.env) = eval o X.env := by rfl) (hline : (apos.endLine == cpos.line) = true := by rfl) : QE X W (.Call (.Attribute o "pop" apos) [] [] cpos) (qBM0 mPop A) := qe_bm0 PySem.F.slot_list_pop PySem.F.type_list_pop mt_pop sPop ho hbase hline
def qM1 (R : O2) (A B : AE) : AE := fun ρ M P Z => A ρ M (fun s M1 => (∃ z, s = .s z) ∧ B ρ M1 (fun t M2 => R s t M2 P) Z) Z
theorem qe_m1 {R : O2} {to te : TE} (hs2 : OpS X.K (fun x y H Q => r x [y] H Q) R) (hp : PE X e (tM1 r (canE X.K W A) (canE X.K W B))) : QE X W e (qM1 R A B) := pe_imp hp (by
  rintro σ H Q ⟨F, M, ρ, P, Z, st, sl, h, cv⟩
  refine ⟨F, M, ρ, _, Z, st, sl, h, ⟨?_, cv.z⟩⟩
  rintro F1 H1 M1 x s e1 st1 r1 ⟨hl, h1⟩
  obtain ⟨z, rfl⟩ := hl
  refine ⟨⟨z, rep_str r1⟩, ?_⟩
  refine ⟨F1, M1, ρ, _, Z, st1, sl.mono e1.ff, h1, ⟨fun F2 H2 M2 xs ss e2 st2 r2 h2 => ?_, (cv.mono e1).z⟩⟩
  exact hs2 st2 (r1.mono e2.ff) r2 h2 fun F' H' M' v u e3 => cv.q F' H' M' v u (e1.trans (e2.trans e3)))
def strsD (ys : List Str) : List PyData := ys.map .str
/-- s.split(t): a list of data; of the store -/
def oSplit : O2 := fun s t M P => match s, t with
  | .d (.str a), .d (.str b) => (b.length == 0) = false ∧ a.length + 2 ≤ sizeLine ∧ P (.d (.list (strsD (Txt.split a b)))) M
  | _, _ => False
def oJoin : O2 := fun s t M P => match s with
  | .d (.str a) => ∃ ys : List Str, (DL M t (strsD ys) ∨ t = .d (.tuple (strsD ys))) ∧ (ys.map (·.length)).sum + ys.length * a.length ≤ 16777216 ∧ P (.s (Txt.join a ys)) M
  | _ => False
theorem sSplit {K : PySem.W.Frag} : OpS K (fun x y H Q => ∃ a b, x = .str a ∧ [y] = [.str b] ∧ (b.length == 0) = false ∧ a.length + 2 ≤ sizeLine ∧ rNewStrs (Txt.split a b) H Q) oSplit := by
  intro F H M x y s t P Q st rx ry h q
  unfold oSplit at h
  split at h
  · obtain ⟨h1, h2, h3⟩ := h
    rw [rep_str rx, rep_str ry]
    exact ⟨_, _, rfl, rfl, h1, h2, fun p hp => newL st (of_strs _) hp h3 q⟩
  · exact h.elim
theorem sJoin {K : PySem.W.Frag} : OpS K (fun x y H Q => ∃ a p, ∃ ys : List Str, x = .str a ∧ [y] = [.ref p] ∧ (SqL K H p (ys.map V.str) ∨ SqT K H p (ys.map V.str)) ∧ (ys.map (·.length)).sum + ys.length * a.length ≤ 16777216 ∧ Q (.str (Txt.join a ys)) H) oJoin := by
  intro F H M x y s t P Q st rx ry h q
  unfold oJoin at h
  split at h
  · obtain ⟨ys, h1, h2, h3⟩ := h
    rw [rep_str rx]
    rcases h1 with h1 | h1
    · obtain ⟨a, vs, rfl, hq, d⟩ := h1.sq st ry
      have e := dp_strs (bs := ys) d
      subst e
      exact ⟨_, a, ys, rfl, rfl, .inl hq, h2, q _ _ _ _ _ Ext.refl st (.d (.str _)) h3⟩
    · subst h1
      obtain ⟨a, vs, rfl, hq, d⟩ := rep_tuple ry
      have e := dp_strs (bs := ys) d
      subst e
      exact ⟨_, a, ys, rfl, rfl, .inr (sameT st.sub hq), h2, q _ _ _ _ _ Ext.refl st (.d (.str _)) h3⟩
  · exact h.elim
theorem qe_split (ho : QE X W o A) (he : QE X W e B) (hs : starEach [e] X.env = [(false, eval e X.env)] := by rfl) (hbase : attributeBase o "split" X.env (eval o X.env) = eval o X.env := by rfl) (hline : (apos.endLine == pos.line) = true := by rfl) :
    QE X W (.Call (.Attribute o "split" apos) [e] [] pos) (qM1 oSplit A B) := qe_m1 (to := fun _ _ _ => True) (te := fun _ _ _ => True) sSplit (pe_split ho he hs hbase hline)
theorem qe_join (ho : QE X W o A) (he : QE X W e B) (hs : starEach [e] X.env = [(false, eval e X.env)] := by rfl) (hbase : attributeBase o "join" X.env (eval o X.env) = eval o X.env := by rfl) (hline : (apos.endLine == pos.line) = true := by rfl) :
    QE X W (.Call (.Attribute o "join" apos) [e] [] pos) (qM1 oJoin A B) := qe_m1 (to := fun _ _ _ => True) (te := fun _ _ _ => True) sJoin (pe_join ho he hs hbase hline)
end
def qFld (K : PySem.W.Frag) (A : AE) (f : Str) : AE := fun ρ M P Z => A ρ M (fun s M1 => ∃ p C fs x, s = .a p ∧ M1 p = some (.ins C fs) ∧ Cls K C ∧ NoAttr K C f ∧ fs.lookup f = some x ∧ P x M1) Z
def qSFld (K : PySem.W.Frag) (A B : AE) (f : Str) : AS := fun D ρ M => B ρ M (fun y M1 => A ρ M1 (fun s M2 => ∃ p C fs, s = .a p ∧ M2 p = some (.ins C fs) ∧ Cls K C ∧ NoAttr K C f ∧ fs.length < 1000 ∧ D.nx ρ (mput M2 p (.ins C (putFS f y fs)))) (fun C s M => D.ex C s ρ M)) (fun C s M => D.ex C s ρ M)
where
  putFS (f : Str) (v : S) : List (Str × S) → List (Str × S)
    | [] => [(f, v)]
    | (g, x) :: r => if g = f then (g, v) :: r else (g, x) :: putFS f v r
abbrev putFS := qSFld.putFS
structure MCal (P : Program) (w : World) (K : PySem.W.Frag) (mg : Str → Option Value) (base : Heap) (k : Nat) (C : Addr) (m : Str) (ps : List Str) (sp : Sp2) : Prop where
  cl : Cls K C
  ex : ∃ f fd, Meth K C m f ∧ FnOk2 P w K mg base k f fd ps sp ∧ Binds K fd ps []
structure ICal (P : Program) (w : World) (K : PySem.W.Frag) (mg : Str → Option Value) (base : Heap) (k : Nat) (C : Addr) (x : Str) (ps : List Str) (sp : Sp2) : Prop where
  hm : mg x = some (.ref C)
  ex : ∃ f fd, Mk K C f ∧ FnOk2 P w K mg base k f fd ps sp ∧ Binds K fd ps []
def qMake (C : Addr) (sp : Sp2) (As : AA) : AE := fun ρ M P Z => As ρ M (fun ss M1 => ∀ x, M1 x = none → sp (.a x :: ss) (mput M1 x (.ins C [])) (fun s M2 => s = .n ∧ P (.a x) M2) Z) Z
section
variable {K : PySem.W.Frag} {F H : Hp} {M : Mem}
theorem repF_look : ∀ {fs : List (Str × V)} {gs : List (Str × S)} {f : Str} {x : S}, RepF K F fs gs → gs.lookup f = some x → ∃ v, fs.lookup f = some v ∧ Rep K F v x
  | _, _, _, _, .nil, h => by cases h
  | (g, v) :: fs, (g', y) :: gs, f, x, .cons r t, h => by
    obtain ⟨e, rp⟩ := r
    simp only at e rp
    subst e
    rw [List.lookup_cons] at h ⊢
    cases hb : (f == g) with
    | true => rw [hb] at h; cases h; exact ⟨v, rfl, rp⟩
    | false => rw [hb] at h; exact repF_look t h
theorem repF_put {f : Str} {v : V} {s : S} (r : Rep K F v s) : ∀ {fs : List (Str × V)} {gs : List (Str × S)}, RepF K F fs gs → RepF K F (putF f v fs) (putFS f s gs)
  | _, _, .nil => .cons ⟨rfl, r⟩ .nil
  | (g, v') :: fs, (g', y) :: gs, .cons r' t => by
    obtain ⟨e, rp⟩ := r'
    simp only at e rp
    subst e
    show RepF K F (if g = f then (g, v) :: fs else (g, v') :: putF f v fs) (if g = f then (g, s) :: gs else (g, y) :: putFS f s gs)
    by_cases h : g = f
    · rw [if_pos h, if_pos h]; exact .cons ⟨rfl, r⟩ t
    · rw [if_neg h, if_neg h]; exact .cons ⟨rfl, rp⟩ (repF_put r t)
/-- a new object that is neither frozen nor in the store -/
theorem Stt.newR {d : Addr} {o : HO} (st : Stt K F H M) (hd : H d = none) : Stt K F (upd H d o) M ∧ Ext F H M F (upd H d o) M := by
  have hf := st.free hd
  refine ⟨⟨fun b u e => by rw [upd_ne (ne_of_none e hf)]; exact st.sub b u e, fun q mo e => ?_⟩, ⟨Same.refl F, fun a u h1 h2 h3 => ⟨by rw [upd_ne (ne_of_none h1 hd)]; exact h1, h2, h3⟩⟩⟩
  obtain ⟨h1, ho, h2, h3⟩ := st.mem q mo e
  exact ⟨h1, ho, by rw [upd_ne (ne_of_none h2 hd)]; exact h2, h3.frozen (Same.refl F) fun d' fs h4 h5 => ⟨by rw [upd_ne (ne_of_none h4 hd)]; exact h4, h5⟩⟩
end
section
variable {X : Cx} {W : WX} {k k' : Nat} {tg e a b c o : Expr} {es : List Expr} {pos pos' p p2 apos cpos : Pos} {A B : AE} {As : AA} {s : S} {f m x : Str} {C fA : Addr} {fd : FuncData} {ps : List Str} {sp : Sp2}
theorem qe_fld (he : QE X W e A) (hb : attributeBase e f X.env (eval e X.env) = eval e X.env := by rfl) : QE X W (.Attribute e f pos) (qFld X.K A f) := pe_imp (pe_fld he hb) (by
  rintro σ H Q ⟨F, M, ρ, P, Z, st, sl, h, cv⟩
  refine ⟨F, M, ρ, _, Z, st, sl, h, ⟨?_, cv.z⟩⟩
  rintro F1 H1 M1 x s e1 st1 r1 ⟨p, C, fs, y, hs, hm, cl, na, hl, h1⟩
  subst hs
  rw [rep_v r1]
  obtain ⟨_, ho, hh, dx, gs, rfl, hr⟩ := st1.mem _ _ hm
  obtain ⟨v, hv, rv⟩ := repF_look hr hl
  exact ⟨p, C, dx, gs, v, rfl, hh, cl, na, hv, cv.q _ _ _ _ _ e1 st1 rv h1⟩)
theorem qs_fld (ha : QE X W o A) (hv : QE X W e B) (hs : swapsWith e (some (.Attribute o f pos')) pos.line X.env = pure false := by rfl) : QS X W (.Assign [.Attribute o f pos'] e pos) (qSFld X.K A B f) := ps_imp (ps_fld ha hv hs) (by
  rintro D σ H ⟨F, M, ρ, D2, st, sl, h, cv⟩
  refine ⟨F, M, ρ, _, _, st, sl, h, ⟨fun F1 H1 M1 x s e1 st1 r1 h1 => ?_, cv.z sl⟩⟩
  refine ⟨F1, M1, ρ, _, _, st1, sl.mono e1.ff, h1, ⟨?_, (cv.mono e1).z (sl.mono e1.ff)⟩⟩
  rintro F2 H2 M2 y t e2 st2 r2 ⟨p, C, fs, hs, hm, cl, na, hz, h2⟩
  subst hs
  rw [rep_v r2]
  obtain ⟨_, ho, hh, dx, gs, rfl, hr⟩ := st2.mem _ _ hm
  obtain ⟨st3, e3⟩ := st2.setM (o := .ins C dx (putF f x gs)) (mo := .ins C (putFS f s fs)) hm ⟨dx, _, rfl, repF_put (r1.mono e2.ff) hr⟩
  have e13 := e1.trans (e2.trans e3)
  exact ⟨p, C, dx, gs, rfl, hh, cl, na, by rw [hr.length]; exact hz, cv.nx _ _ _ σ ρ e13 st3 (sl.mono e13.ff) h2⟩)
/-- C(e, ..) -/
def tMakeS (C : Addr) (sp : Sp) (E : L2.St → XK) (t : TA) : TE := fun σ H Q => t σ H fun vs H1 => ∀ x dx, H1 x = none → H1 dx = none → dx ≠ x → sp (.ref x :: vs) (upd (upd H1 dx (.own x)) x (.ins C dx [])) (fun v H2 => v = .non ∧ Q (.ref x) H2) (E σ)
theorem run_makeS {pins : List (Addr × Obj)} {σ : L2.St} {H : Hp} {s : Shared} {Q : VK} {us : List Value} {vs : List V} (Mq : Mk X.K C fA) (cx : Cxt X W k') (hk : k + 1 ≤ k') (Fo : FnOk2 X.prog X.w X.K X.mg X.base k fA fd ps sp) (hb : Binds X.K fd ps [])
    (I : Inv X pins σ H s) (r : Vals vs us)
    (h : ∀ x dx, H x = none → H dx = none → dx ≠ x → lift X.K sp (.ref x :: vs) (upd (upd H dx (.own x)) x (.ins C dx [])) (fun v H2 => v = .non ∧ Q (.ref x) H2) (WE W σ)) :
    wpAny (model X.prog X.w) X.A (call (.ref C) us) (EP X pins σ Q) X.xe s := by
  have hr := cx.room.mono hk
  have hq := h (s.heap.objs.size + 1) s.heap.objs.size (I.hok.fresh (Nat.le_succ _)) (I.hok.fresh (Nat.le_refl _)) (Nat.ne_of_lt (Nat.lt_succ_self _))
  have I2 := Inv.made (C := C) I
  have r2 : Vals (V.ref (s.heap.objs.size + 1) :: vs) (Value.ref (s.heap.objs.size + 1) :: us) := .cons rfl r
  have hl : (Value.ref (s.heap.objs.size + 1) :: us).length = ps.length := by
    have e := r2.length
    rw [Fo.len _ _ _ _ hq] at e
    exact e.symm
  have b := hb _ (Value.ref (s.heap.objs.size + 1) :: us) I2.kIn (by rw [List.append_nil]; exact hl)
  rw [List.append_nil] at b
  refine wpAny_call (make_map (f := fA) I.kIn Mq.makes Mq.init (beq_iff_eq.mp Mq.fn) (codeAny_mono (Fo.run _ X.stack _ _ ⟨Value.ref (s.heap.objs.size + 1) :: us, []⟩ (Value.ref (s.heap.objs.size + 1) :: us) _ _ (WE W σ) (gd_make cx.gd) (hr.make C us [])
    (I2.env0.make C us []) b r2 hq) fun r s' hq' => ?_))
  cases r with
  | error e => exact L2N.passAt cx.tk σ pins _ _ e s' I2 hq'
  | ok fl =>
    cases fl with
    | ret u =>
      obtain ⟨v, H', I3, rv, ev, q3⟩ := I2.after hq'
      subst ev
      exact ⟨rv, ⟨V.ref (s.heap.objs.size + 1), H', I3, rfl, q3⟩⟩
    | next => exact False.elim hq'
    | brk => exact False.elim hq'
    | cont => exact False.elim hq'
theorem make_sim {n : Nat} {σ : L2.St} {H : Hp} {Q : VK} (h : canE X.K W (qMake C sp As) σ H Q) : tMakeS C (lift X.K sp) (WE W) (can X.K (RepA X.K n) W As) σ H Q := by
  obtain ⟨F, M, ρ, P, Z, st, sl, h, cv⟩ := h
  refine ⟨F, M, ρ, _, Z, st, sl, h, ⟨fun F1 H1 M1 vs ss e1 st1 r1 h1 => ?_, cv.z⟩⟩
  intro x dx hx hdx hne
  obtain ⟨st2, e2⟩ := st1.newR (o := .own x) hdx
  have hx2 : upd H1 dx (.own x) x = none := by rw [upd_ne (Ne.symm hne)]; exact hx
  obtain ⟨st3, e3⟩ := st2.newM (o := .ins C dx []) (mo := .ins C []) hx2 ⟨dx, [], rfl, .nil⟩
  refine ⟨F1, _, _, _, Z, st3, .cons .v r1.1, h1 x (st1.mfree hx), ?_, fun F' H' M' C d s e => cv.z F' H' M' C d s (e1.trans (e2.trans (e3.trans e)))⟩
  rintro F' H' M' v s e st' r' ⟨hs, hp⟩
  subst hs
  exact ⟨rep_none r', cv.q F' H' M' _ _ (e1.trans (e2.trans (e3.trans e))) st' .v hp⟩
theorem qe_make (cx : Cxt X W k') (G : ICal X.prog X.w X.K X.mg X.base k C x ps sp) (hk : k + 1 ≤ k') (hg : Gl X x) (ha : QAr X W (e :: es) As) (hdb : (x == ("__debug__" : Str)) = false := by decide)
    (he : starEach (e :: es) X.env = (false, eval e X.env) :: starEach es X.env := by rfl) (hpl : (backTo pos (starEach es X.env)).any (·.1) = false := by rfl) : QE X W (.Call (.Name x p) (e :: es) [] pos) (qMake C sp As) := by
  obtain ⟨f, fd, Mq, Fo, bd⟩ := G.ex
  refine pe_imp (t := tMakeS C (lift X.K sp) (WE W) (can X.K (RepA X.K (e :: es).length) W As)) ⟨fun pins s σ H Q I h => ?_⟩ fun σ H Q h => make_sim h
  refine wpAny_Call_Name_kw (ld_glob I hg G.hm ?_ hdb)
  refine PySem.W.callWith_K (h₀ := X.base) I.ok.mod.kin Mq.kp (thn (ha.run pos pins s σ H _ I h) fun us s1 ⟨vs, H1, I1, r, q⟩ => ⟨I1.kIn, ?_⟩) he hpl
  exact run_makeS Mq cx hk Fo bd I1 r q
end
end Lv
set_option Elab.async false
set_option linter.all false
set_option maxRecDepth 100000
set_option maxHeartbeats 4000000
namespace Lv
open PySem PySem.Spec PyProof.Rows L2
/-- what the written part says of an error's class -/
structure XC (K : PySem.W.Frag) (C : Addr) : Prop where
  T : OexC K C
  no : PySem.W.findIn K (.ref C) "what" = some none
  ga : PySem.W.findIn K (.ref C) "__getattribute__" = some (some (.builtin "BaseException.__getattribute__"))
  gg : PySem.W.findIn K (.ref C) "__getattr__" = some none
  hd : PySem.W.hasDictIn K C = true
  ha : PySem.W.findIn K (.ref C) "__class__" = some (some (.builtin "object.__class__"))
  hm : PySem.W.mroIn K C (.type "object") = some true
  hn : PySem.W.specialIn K (.builtin "object.__class__") "__get__" = some (some (.builtin "getset_descriptor.__get__"))
  ht : PySem.W.takesIn K (.builtin "object.__class__") = some true
  hc : (PySem.W.clsIn K C).isSome = true
/-- DayError.__init__(self, what) -/
def spXI (K : PySem.W.Frag) : Sp := fun vs H Q _ => ∃ (a C : Addr) (v : V), vs = [.ref a, v] ∧ OexC K C ∧ PySem.W.findIn K (.ref C) "what" = some none ∧ H a = some (exo a C none) ∧
  ∀ d, H d = none → d ≠ a → Q .non (upd (upd H d (exd d [(("what" : Str), v)])) a (exo a C (some d)))
section
variable {X : Cx} {e : Expr} {es : List Expr} {ta : TA} {p pos : Pos}
/-- C(e, ..) where nothing is handled; the error made has no context. The steps are those of the library's rules pmk_oex and pmk5_oexH -/
theorem pmkN_oex {CX : CXT} {x : Str} {C fI : Addr} {k : Nat} {fd : FuncData} {ps : List Str} {sp : Sp} {ds : List Value} {dvs : List V} (T : OexC X.K C) (iC : PySem.W.findIn X.K (.ref C) "__init__" = some (some (.ref fI))) (tI : PySem.W.typeIn X.K (.ref fI) = some (.type "function"))
    (F1 : FnOk X.prog X.w X.K X.mg X.base CX k fI fd ps sp) (hr : Room (k + 1) X.A) (hb : Binds X.K fd ps ds) (hd : Vals dvs ds) (hx : Passes CX X (fun _ _ _ => False)) (hg : Gl X x) (hm : X.mg x = some (.ref C)) (ha : PA X (e :: es) ta)
    (hdb : (x == ("__debug__" : Str)) = false := by decide) (he : starEach (e :: es) X.env = (false, eval e X.env) :: starEach es X.env := by rfl) (hpl : (backTo pos (starEach es X.env)).any (·.1) = false := by rfl) :
    L2N.PMk X (.Call (.Name x p) (e :: es) [] pos) (tMkO C sp dvs ta) := by
  intro pins s σ H Q I h
  obtain ⟨nm, q, N, bs, bm, sn, sub, ab, col, dd, k0, k1, k2, k3, k5, hC, hbm⟩ := T.cls
  refine wpAny_Call_Name_kw (ld_glob I hg hm ?_ hdb)
  refine PySem.W.callWith_K (h₀ := X.base) I.ok.mod.kin T.kC (thn (ha.run pos pins s σ H _ I h) fun us s1 ⟨vs, H1, I1, r1, hz, q1⟩ => ⟨I1.kIn, ?_⟩) he hpl
  show wpAny _ _ (call (.ref C) us) _ _ _
  obtain ⟨hp, g, dr, tk, os⟩ := s1
  have hsz : hp.objs.size ≤ hp.objs.size + 1 := Nat.le_succ _
  have hn : H1 (hp.objs.size + 1) = none := I1.hok.fresh hsz
  have hq := q1 (hp.objs.size + 1) hn
  have kk : ∀ b o, hp.get? b = some o → ((hp.push (PySem.W.kdv_tup us)).push (PySem.HandSPX.excO C hp.objs.size)).get? b = some o := fun b o e => Heap.get?_push_of_some _ (Heap.get?_push_of_some _ e)
  have hget : ((hp.push (PySem.W.kdv_tup us)).push (PySem.HandSPX.excO C hp.objs.size)).get? (hp.objs.size + 1) = some (PySem.HandSPX.excO C hp.objs.size) := by heap_get
  have I2 : Inv X pins σ (upd H1 (hp.objs.size + 1) (exo (hp.objs.size + 1) C none)) ⟨(hp.push (PySem.W.kdv_tup us)).push (PySem.HandSPX.excO C hp.objs.size), g, dr, tk, os⟩ :=
    I1.laid (t' := tk) (a := hp.objs.size + 1) (o := exo (hp.objs.size + 1) C none) (h' := (hp.push (PySem.W.kdv_tup us)).push (PySem.HandSPX.excO C hp.objs.size)) kk hsz (exo_ok hget)
  have r2 : Vals (V.ref (hp.objs.size + 1) :: (vs ++ dvs)) (Value.ref (hp.objs.size + 1) :: (us ++ ds)) := .cons rfl (r1.append hd)
  have hl : (Value.ref (hp.objs.size + 1) :: us ++ ds).length = ps.length := by
    have e := r2.length
    rw [F1.len _ _ _ _ hq] at e
    exact e.symm
  have hus : us.length ≤ sizeLine := by
    rw [← Paired.length r1, sizeLine_eq]
    omega
  refine wpAny_call (PySem.HandSPX.call_own F.excBase_ValueError (fun Y => PySem.HandSPX.refsVE_contains Y bm hbm) (I1.kIn _ _ hC) (PySem.W.looks_findIn I1.kIn iC) (fun self => PySem.W.bind_fn I1.kIn self tI) hus
    (codeAny_mono (F1.run _ X.stack _ _ ⟨Value.ref (hp.objs.size + 1) :: us, []⟩ (Value.ref (hp.objs.size + 1) :: (us ++ ds)) _ _ (fun _ _ _ => False) (hr.make C us []) (I2.env0.make C us []) (hb _ (Value.ref (hp.objs.size + 1) :: us) I2.kIn hl) r2 hq) fun r s' hq' => ?_))
  cases r with
  | error er => exact hx pins σ _ _ er s' I2 hq'
  | ok fl =>
    cases fl with
    | ret u =>
      obtain ⟨v, H2, os2, bare2, un2, hok2, rv, ev, d, fs, ea, ed, hd1, q2⟩ := hq'
      subst ev
      obtain ⟨h2, g2, d2, t2, os'⟩ := s'
      obtain ⟨t0, G, J, kG, ge, hoe, na⟩ := mk_end0 (d2 := d2) (t2 := t2) I1 hsz kk un2 hok2 os2 bare2 ea ed hd1
      exact ⟨rv, ⟨hp.objs.size + 1, _, _, ⟨G, g2, d2, t2, os'⟩, _, .ref C, some d, rfl, J, kG, ge, hoe, ⟨rfl, rfl, fun vs hv => by cases hv; rfl⟩, rfl, rfl, na, rfl, bare2, raises_own T.exC T.tyC, q2⟩⟩
    | next => exact False.elim hq'
    | brk => exact False.elim hq'
    | cont => exact False.elim hq'
end
structure XCal (P : Program) (w : World) (K : PySem.W.Frag) (mg : Str → Option Value) (base : Heap) (x : Str) (C : Addr) : Prop where
  hm : mg x = some (.ref C)
  xc : XC K C
  ex : ∃ fI fd, PySem.W.findIn K (.ref C) "__init__" = some (some (.ref fI)) ∧ PySem.W.typeIn K (.ref fI) = some (.type "function") ∧ FnOk P w K mg base (L2N.CX P w) 1 fI fd ["self", "what"] (spXI K) ∧ Binds K fd ["self", "what"] []
def qRaise (C : Addr) (As : AA) : AS := fun D ρ M => As ρ M (fun ss M1 => match ss with
  | [s] => D.ex C s ρ M1
  | _ => False) (fun C s M => D.ex C s ρ M)
section
variable {X : Cx} {W : WX} {k k' : Nat} {tg e a b c o : Expr} {es : List Expr} {pos pos' p p2 apos cpos : Pos} {A B : AE} {As : AA} {s : S} {x : Str} {C : Addr}
theorem qs_raise (cx : Cxt X W k') (hk : 2 ≤ k') (G : XCal X.prog X.w X.K X.mg X.base x C) (hg : Gl X x) (ha : QAr X W [e] As) (hdb : (x == ("__debug__" : Str)) = false := by decide) (he : starEach [e] X.env = (false, eval e X.env) :: starEach [] X.env := by rfl) (hpl : (backTo pos (starEach [] X.env)).any (·.1) = false := by rfl) :
    QS X W (.Raise (some (.Call (.Name x p) [e] [] pos)) none pos') (qRaise C As) := by
  obtain ⟨fI, fd, iC, tI, Fo, bd⟩ := G.ex
  refine ps_imp (L2N.ps_raise cx.calm cx.tk (pmkN_oex G.xc.T iC tI Fo (cx.room.mono hk) bd .nil passN hg G.hm ha hdb he hpl)) ?_
  rintro D σ H ⟨F, M, ρ, D2, st, sl, h, cv⟩
  refine ⟨F, M, ρ, _, _, st, sl, h, ⟨fun F1 H1 M1 vs ss e1 st1 r1 h1 => ?_, cv.z sl⟩⟩
  split at h1
  · cases r1.1 with
    | cons r rr =>
      cases rr
      refine ⟨(by show 1 ≤ 1000; decide), fun a han => ⟨a, C, _, rfl, G.xc.T, G.xc.no, upd_same, fun d hd hda => ⟨rfl, d, _, upd_same, by rw [upd_ne hda, upd_same], ?_, ?_⟩⟩⟩
      · rw [upd_ne hda] at hd; exact hd
      · have hd1 : H1 d = none := by rw [upd_ne hda] at hd; exact hd
        rename_i u
        have e : upd (del (upd (upd (upd H1 a (exo a C none)) d (exd d [(("what" : Str), u)])) a (exo a C (some d))) a) d (.xd [(("what" : Str), u)]) = upd H1 d (.xd [(("what" : Str), u)]) := by
          funext b
          by_cases hb : b = d
          · subst hb; rw [upd_same, upd_same]
          · rw [upd_ne hb, upd_ne hb]
            by_cases hba : b = a
            · subst hba; rw [del_same, han]
            · rw [del_ne hba, upd_ne hba, upd_ne hb, upd_ne hba]
        rw [e]
        obtain ⟨st2, e2⟩ := st1.newR (o := .xd [(("what" : Str), u)]) hd1
        exact cv.ex _ _ _ σ ρ C d _ (e1.trans e2) st2 (sl.mono (e1.trans e2).ff) ⟨⟨u, upd_same, r⟩, st1.free hd1, st1.mfree hd1⟩ h1
  · exact h1.elim
end
theorem exq_ok {P : Program} {w : World} {H : Hp} {h : Heap} {a : Addr} {cls : Value} {d : Option Addr} {oe : Obj} {vs : Array Value} (he : h.get? a = some oe) (hz : Zc cls d oe) (hd : oe.data = .fields vs) : ObjOk P w H h a (exq a cls d) :=
  ⟨⟨oe, vs, he, hz, hd⟩, ⟨_, he⟩, (by rintro h1 h2 ⟨oe, vs, z1, z2, z3⟩ k; exact ⟨oe, vs, k _ z1, z2, z3⟩)⟩
theorem exq_at {P : Program} {w : World} {H : Hp} {h : Heap} {a : Addr} {cls : Value} {d : Option Addr} (hok : HOk P w H h) (he : H a = some (exq a cls d)) : ∃ oe vs, h.get? a = some oe ∧ Zc cls d oe ∧ oe.data = .fields vs := by
  have x : ObjOk P w H h a (.ext fun h => ∃ oe vs, h.get? a = some oe ∧ Zc cls d oe ∧ oe.data = .fields vs) := hok a _ he
  exact x.1
section
variable {X : Cx} {pins : List (Addr × Obj)} {σ : L2.St} {H : Hp} {s : Shared}
theorem track {a : Addr} {oe : Obj} {vs : Array Value} {cls : Value} {d : Option Addr} (I : Inv X pins σ H s) (ha : s.heap.get? a = some oe) (hz : Zc cls d oe) (hd : oe.data = .fields vs) (na : H a = none) (nL : a ≠ X.env.locals)
    (n0 : ∀ o, X.s_0.heap.get? a = some o → False) (np : ∀ p ∈ X.pn ++ pins, p.1 ≠ a) : Inv X pins σ (upd H a (exq a cls d)) s := by
  refine ⟨I.ok, I.os, I.bare, ⟨I.base.keep, I.base.slot, fun b o e n hx => ?_, I.base.there, fun b xs e => ?_, fun b o u e => ?_, fun b ps e => ?_⟩, I.loc, I.cell, ?_, fun x c e => ?_, fun p hp => ?_, fun b u e => ?_, I.len⟩
  · rw [upd_ne fun z => ?_]
    · exact I.base.free b o e n hx
    · subst z; exact n0 o e
  · have q := I.base.tups b xs e
    rw [upd_ne (ne_of_none q na)]; exact q
  · have q := I.base.frzs b o u e
    rw [upd_ne (ne_of_none q na)]; exact q
  · obtain ⟨m, q⟩ := I.base.tbls b ps e
    exact ⟨m, by rw [upd_ne (ne_of_none q na)]; exact q⟩
  · rw [upd_ne (Ne.symm nL)]; exact I.free
  · rw [upd_ne fun z => ?_]
    · exact I.freeC x c e
    · subst z
      obtain ⟨v, o, h1, h2⟩ := I.cell x c e
      rw [ha] at h1; cases h1
      rw [hd] at h2; cases h2
  · obtain ⟨e, n, ne, nf, dd⟩ := I.pin p hp
    exact ⟨e, by rw [upd_ne (np p hp)]; exact n, ne, nf, dd⟩
  · by_cases hb : b = a
    · subst hb
      rw [upd_same] at e; cases e
      exact exq_ok ha hz hd
    · rw [upd_ne hb] at e
      exact (I.hok b u e).stay (fun c v _ q => q) (fun c q => by rw [upd_ne (ne_of_none q na)]; exact q) fun c xs q => by rw [upd_ne (ne_of_none q na)]; exact q
theorem toSuite {a : Addr} (I : Inv X pins σ H s) : Inv (X.suite a (X.pn ++ pins)) [] σ H s :=
  ⟨I.ok.suite _ _, I.os, I.bare, I.base, I.loc, I.cell, I.free, I.freeC, fun p hp => I.pin p (by rw [List.append_nil] at hp; exact hp), I.hok, I.len⟩
theorem ofSuite {a : Addr} {pn' : List (Addr × Obj)} (I : Inv (X.suite a (X.pn ++ pins)) pn' σ H s) (ok : X.Ok) : Inv X pins σ H s :=
  ⟨ok, I.os, I.bare, I.base, I.loc, I.cell, I.free, I.freeC, fun p hp => I.pin p (List.mem_append_left _ hp), I.hok, I.len⟩
end
/-- what the clause wishes: slot i is n's, the error is known at a -/
def wKp (K : PySem.W.Frag) (c : Value) (i : Nat) (ts : TS) (Wout : WX) (D : Ends) : WX := fun cls d σ H =>
  ∃ b, PySem.W.exmOne K cls c = some b ∧ (b = true → ∀ a, H a = none → ts { nx := fun σ' H' => D.nx (σ'.set i none) H', rt := D.rt, bk := fun σ' H' => D.bk (σ'.set i none) H', ct := fun σ' H' => D.ct (σ'.set i none) H' } (σ.set i (some (.ref a))) (upd H a (exq a cls d))) ∧
    (b = false → Wout cls d σ H)
section
variable {X : Cx} {x n : Str} {c : Value} {i : Nat} {body suite : List Stmt} {b₀ : Stmt} {np pos pos' : Pos} {tb : WX → TS} {ts : TS} {Wout : WX}
end
/-- what becomes of an error of the body: the suite U, slot i n's; or on it goes -/
def hTry (K : PySem.W.Frag) (c : Value) (i : Nat) (U : AS) (D : E2) : Addr → S → Rl → Mem → Prop := fun C s ρ M =>
  ∃ b, PySem.W.exmOne K (.ref C) c = some b ∧ BIf b (∀ a, M a = none → U ⟨fun ρ2 M2 => D.nx (ρ2.set i none) M2, D.rt, fun ρ2 M2 => D.bk (ρ2.set i none) M2, fun ρ2 M2 => D.ct (ρ2.set i none) M2, fun _ _ _ _ => False⟩ (ρ.set i (some (.a a))) (mput M a (.exc C s))) (D.ex C s ρ M)
/-- try .. except c as n -/
def qTry (K : PySem.W.Frag) (c : Value) (i : Nat) (T U : AS) : AS := fun D ρ M => T ⟨D.nx, D.rt, D.bk, D.ct, hTry K c i U D⟩ ρ M
section
variable {X : Cx} {W : WX} {k : Nat} {x n : Str} {c : Value} {i : Nat} {body suite : List Stmt} {b₀ : Stmt} {np pos pos' : Pos} {T U : AS}
theorem Cxt.tr {pn : List (Addr × Obj)} {xe : Value → Shared → Prop} {W' : WX} (cx : Cxt X W k) (tk : L2N.Takes (X.tr pn xe) W') (ps : PassesOwn (model X.prog X.w) X.A X.env xe) : Cxt (X.tr pn xe) W' k := ⟨tk, cx.calm, cx.nd, cx.room, ps, cx.gd⟩
end
def qWhat (K : PySem.W.Frag) (A : AE) : AE := fun ρ M P Z => A ρ M (fun s M1 => ∃ p C x, s = .a p ∧ M1 p = some (.exc C x) ∧ XC K C ∧ P x M1) Z
def tWhat (K : PySem.W.Frag) (te : TE) : TE := fun σ H Q => te σ H fun x H1 => ∃ (a C d : Addr) (v : V), x = .ref a ∧ H1 a = some (exq a (.ref C) (some d)) ∧ XC K C ∧ H1 d = some (.xd [(("what" : Str), v)]) ∧ Q v H1
theorem inst_of {K : PySem.W.Frag} {P : Program} {w : World} {H : Hp} {h : Heap} {a C d : Addr} {v : V} (hok : HOk P w H h) (h1 : H a = some (exq a (.ref C) (some d))) (h2 : H d = some (.xd [(("what" : Str), v)])) : ∃ oe od u, PySem.W.InstAt h a oe C (some od) ∧ RelV v u ∧ PySem.W.lookIn ("what" : Str) od = some (some u) := by
  obtain ⟨oe, vs, he, hz, hd⟩ := exq_at hok h1
  have hx : ObjOk P w H h d (.xd [(("what" : Str), v)]) := hok d _ h2
  obtain ⟨mA, hns, hr⟩ := hx
  obtain ⟨od, ho, hl⟩ := lookIn_ns hns
  obtain ⟨u, hu, ru⟩ := RelO.some_of (v := v) (o := mA "what") (hr "what")
  exact ⟨oe, od, u, ⟨he, hz.1, by unfold PySem.W.notCls; rw [hd] <;> rfl, by rw [hz.2]; exact ho⟩, ru, by rw [hl, hu]⟩
section
variable {X : Cx} {W : WX} {k : Nat} {e a b : Expr} {pos p : Pos} {A B : AE} {As : AA}
theorem pe_what {te : TE} (he : PE X e te) (hb : attributeBase e "what" X.env (eval e X.env) = eval e X.env := by rfl) : PE X (.Attribute e "what" pos) (tWhat X.K te) := by
  refine ⟨fun pins s σ H Q I h => ?_⟩
  refine attr_of hb (thn (he.run pins s σ H _ I h) ?_)
  rintro u s1 ⟨x, H1, I1, rx, a, C, d, v, ex, h1, T, h2, q⟩
  subst ex
  obtain rfl : u = Value.ref a := rx
  obtain ⟨oe, od, u, J, ru, hl⟩ := inst_of (K := X.K) I1.hok h1 h2
  exact PySem.HandSPX.exc_get I1.kIn J T.ga T.gg T.T.exC (PySem.W.findObj_own T.hd T.no rfl hl) (handed_of ru) ⟨v, H1, I1.tok _, ru, q⟩
theorem qe_what (he : QE X W e A) (hb : attributeBase e "what" X.env (eval e X.env) = eval e X.env := by rfl) : QE X W (.Attribute e "what" pos) (qWhat X.K A) := pe_imp (pe_what he hb) (by
  rintro σ H Q ⟨F, M, ρ, P, Z, st, sl, h, cv⟩
  refine ⟨F, M, ρ, _, Z, st, sl, h, ⟨?_, cv.z⟩⟩
  rintro F1 H1 M1 x s e1 st1 r1 ⟨p, C, y, hs, hm, T, h1⟩
  subst hs
  rw [rep_v r1]
  obtain ⟨_, ho, hh, d, v, rfl, h2, h3, h4⟩ := st1.mem _ _ hm
  exact ⟨p, C, d, v, rfl, hh, T, h2, cv.q _ _ _ _ _ e1 st1 h4 h1⟩)
/-- isinstance(e, c), e a caught error -/
def rIsX (K : PySem.W.Frag) : List V → Hp → VK → Prop := fun xs H Q => ∃ (a C d : Addr) (v c : V) (u : Value) (b : Bool), xs = [.ref a, c] ∧ H a = some (exq a (.ref C) (some d)) ∧ XC K C ∧ H d = some (.xd [(("what" : Str), v)]) ∧ ClsV c u ∧ PySem.W.kitOne K (.ref C) u = some b ∧ Q (.bl b) H
theorem kitX_of {K : PySem.W.Frag} {C x : Addr} {ox : Obj} {od : Option Obj} (T : XC K C) : PySem.W.KitX K (.ref x) (.ref C) (fun h => PySem.W.InstAt h x ox C od) := PySem.W.kitx_exc T.hc T.ga T.gg T.T.exC T.ha T.hn T.ht T.hm
theorem cr_isX : CallR X (.builtin "isinstance") (rIsX X.K) := by
  intro pins s σ H xs us Q I r h
  obtain ⟨a, C, d, v, c, u, b, rfl, h1, T, h2, hc, e, q⟩ := h
  obtain ⟨u1, u2, rfl, r1, r2⟩ := vals2 r
  have e2 := hc.eq r2
  subst e2
  cases (show u1 = Value.ref a from r1)
  obtain ⟨oe, od, w', J, _, _⟩ := inst_of (K := X.K) I.hok h1 h2
  exact PySem.W.kia_one (kitX_of T) I.kIn J e (fun z => nomatch z) fun tk => ⟨.bl b, H, I.tok tk, rfl, q⟩
def rIsXT (K : PySem.W.Frag) : List V → Hp → VK → Prop := fun xs H Q => ∃ (a C d tp : Addr) (v : V) (cs : List V) (us : List Value) (b : Bool), xs = [.ref a, .ref tp] ∧ H a = some (exq a (.ref C) (some d)) ∧ XC K C ∧ H d = some (.xd [(("what" : Str), v)]) ∧ H tp = some (.tup cs) ∧ Paired ClsV cs us ∧
  PySem.W.kitAny K (.ref C) us = some b ∧ Q (.bl b) H
theorem cr_isXT : CallR X (.builtin "isinstance") (rIsXT X.K) := by
  intro pins s σ H xs us Q I r h
  obtain ⟨a, C, d, tp, v, cs, ws, b, rfl, h1, T, h2, hT, k, e, q⟩ := h
  obtain ⟨u1, u2, rfl, r1, r2⟩ := vals2 r
  cases (show u2 = Value.ref tp from r2)
  cases (show u1 = Value.ref a from r1)
  obtain ⟨oe, od, w', J, _, _⟩ := inst_of (K := X.K) I.hok h1 h2
  obtain ⟨_, its, rv, o, g1, g2, n, g3⟩ := (show ObjOk X.prog X.w H s.heap tp (.tup cs) from I.hok tp _ hT)
  have e3 := ClsV.all k rv
  subst e3
  obtain ⟨oc, od', dt, sl⟩ := o
  simp only at g2 g3
  subst g2 g3
  exact PySem.W.kia_tup (kitX_of T) I.kIn J g1 e (fun z => nomatch z) fun tk => ⟨.bl b, H, I.tok tk, rfl, q⟩
def cIsX (K : PySem.W.Frag) (u : Value) : C2 := fun ss M P => match ss with
  | [s, t] => ∃ p C x v b, s = .a p ∧ t = .v v ∧ ClsV v u ∧ M p = some (.exc C x) ∧ XC K C ∧ PySem.W.kitOne K (.ref C) u = some b ∧ P (.b b) M
  | _ => False
theorem sIsX {K : PySem.W.Frag} {u : Value} : CallS K (rIsX K) (cIsX K u) := by
  intro F H M xs ss P Q st rl h q
  unfold cIsX at h
  split at h
  · obtain ⟨p, C, x, v, b, hs, ht, hv, hm, T, hk, h1⟩ := h
    subst hs ht
    cases rl with
    | cons r rr =>
      cases rr with
      | cons r' rr =>
        cases rr
        rw [rep_v r, rep_v r']
        obtain ⟨_, ho, hh, d, w, rfl, h2, h3, h4⟩ := st.mem _ _ hm
        exact ⟨p, C, d, w, v, u, b, rfl, hh, T, h2, hv, hk, q _ _ _ _ _ Ext.refl st (.d (.bl b)) h1⟩
  · exact h.elim
theorem qe_isX {u : Value} (hg : Gl X "isinstance") (hm : X.mg "isinstance" = none) (ha : QAr X W [a, b] As) (he : starEach [a, b] X.env = (false, eval a X.env) :: starEach [b] X.env := by rfl) (hpl : (backTo pos (starEach [b] X.env)).any (·.1) = false := by rfl) :
    QE X W (.Call (.Name "isinstance" p) [a, b] [] pos) (qCB (cIsX X.K u) As) := qe_callB cr_isX sIsX hg hm (by decide +kernel) ha (by decide) (by decide) he hpl
/-- a written tuple of classes -/
inductive QTys (X : Cx) : List Expr → List V → List Value → Prop where
  | nil : QTys X [] [] []
  | cons {e : Expr} {v : V} {u : Value} {es : List Expr} {vs : List V} {us : List Value} : PE X e (tC v) → ClsV v u → (starEach (e :: es) X.env = (false, eval e X.env) :: starEach es X.env) → QTys X es vs us → QTys X (e :: es) (v :: vs) (u :: us)
theorem QTys.pa : ∀ {es : List Expr} {vs : List V} {us : List Value}, QTys X es vs us → PA X es (fun σ H Q => Q vs H)
  | _, _, _, .nil => pa_nil
  | _, _, _, .cons h _ hs t => pa_imp (pa_cons h (QTys.pa t) hs) fun σ H Q q => q
theorem QTys.cls : ∀ {es : List Expr} {vs : List V} {us : List Value}, QTys X es vs us → Paired ClsV vs us
  | _, _, _, .nil => .nil
  | _, _, _, .cons _ k _ t => .cons k (QTys.cls t)
theorem QTys.len : ∀ {es : List Expr} {vs : List V} {us : List Value}, QTys X es vs us → vs.length = es.length
  | _, _, _, .nil => rfl
  | _, _, _, .cons _ _ _ t => congrArg (· + 1) (QTys.len t)
/-- isinstance(e, (c1, c2, ..)) of a caught error; of data -/
def qIsXT (K : PySem.W.Frag) (us : List Value) (A : AE) : AE := fun ρ M P Z => A ρ M (fun s M1 => ∃ p C x b, s = .a p ∧ M1 p = some (.exc C x) ∧ XC K C ∧ PySem.W.kitAny K (.ref C) us = some b ∧ P (.b b) M1) Z
theorem qe_isXT {es : List Expr} {vs : List V} {us : List Value} {x1} {tpos : Pos} (hg : Gl X "isinstance") (hm : X.mg "isinstance" = none) (ha : QE X W a A) (ht : QTys X es vs us) (hz : es.length ≤ 1000 := by decide)
    (he : starEach [a, .Tuple es x1 tpos] X.env = (false, eval a X.env) :: starEach [.Tuple es x1 tpos] X.env := by rfl) (he2 : starEach [.Tuple es x1 tpos] X.env = (false, eval (.Tuple es x1 tpos) X.env) :: starEach [] X.env := by rfl) (hpl : (backTo pos (starEach [.Tuple es x1 tpos] X.env)).any (·.1) = false := by rfl) :
    QE X W (.Call (.Name "isinstance" p) [a, .Tuple es x1 tpos] [] pos) (qIsXT X.K us A) := by
  refine pe_imp (pe_callB cr_isXT hg hm (by decide +kernel) (pa_cons ha (pa_cons (pe_tup ht.pa) pa_nil he2) he) (by decide) (by decide) he hpl) ?_
  rintro σ H Q ⟨F, M, ρ, P, Z, st, sl, h, cv⟩
  refine ⟨F, M, ρ, _, Z, st, sl, h, ⟨?_, cv.z⟩⟩
  rintro F1 H1 M1 x s e1 st1 r1 ⟨q, C, y, b, hs, hmm, T, hk, h1⟩
  subst hs
  rw [rep_v r1]
  refine ⟨by rw [ht.len]; exact thousand hz, fun tp htp => ?_⟩
  obtain ⟨st2, e2⟩ := st1.newF (o := .tup vs) htp
  obtain ⟨_, ho, hh, d, w, rfl, h2, h3, h4⟩ := st2.mem _ _ hmm
  exact ⟨q, C, d, tp, w, vs, us, b, rfl, hh, T, h2, upd_same, ht.cls, hk, cv.q _ _ _ _ _ (e1.trans e2) st2 (.d (.bl b)) h1⟩
def anyK (fs : List (Kd → Bool)) (kd : Kd) : Bool := fs.any fun f => f kd
inductive KTys : List Value → List (Kd → Bool) → Prop where
  | nil : KTys [] []
  | cons {n : String} {f : Kd → Bool} {us : List Value} {fs : List (Kd → Bool)} : (∀ kd : Kd, kitB kd.nm n = some (f kd)) → KTys us fs → KTys (.type n :: us) (f :: fs)
theorem KTys.any {K : PySem.W.Frag} {kd : Kd} : ∀ {us : List Value} {fs : List (Kd → Bool)}, KTys us fs → PySem.W.kitAny K (.type kd.nm) us = some (anyK fs kd)
  | _, _, .nil => rfl
  | _, _, .cons (f := f) (fs := fs) h t => by
    refine kitAny_cons (kit_ty (h kd)) (fun e => ?_) (fun e => ?_)
    · rw [KTys.any t]
      show some (fs.any fun f => f kd) = some ((f :: fs).any fun f => f kd)
      rw [List.any_cons, e]; rfl
    · show ((f :: fs).any fun f => f kd) = true
      rw [List.any_cons, e]; rfl
end
/-- a def by its body, for errors without a context -/
theorem Fun.okN {P : Program} {w : World} {K : PySem.W.Frag} {mg : Str → Option Value} {base : Heap} {x qual : Str} {st : Stmt} {f : Addr} {fd : FuncData} {N ps : List Str} {k : Nat} {sp : Sp} (F : Fun K x qual st f fd) (S : FnScope N ps (defScope st)) (len : ∀ vs H Q E, sp vs H Q E → vs.length = ps.length)
    (hbody : ∀ (cdv : Value) (A : Around) (outer : List Env) (s : Shared) (H : Hp) (vs : List V) (Q : VK) (E : XK), Room k (A.deeper (envOfC qual (defScope st) s.heap.objs.size f cdv)) → sp vs H Q E →
      ∃ t, PSs (cxOf (L2N.CX P w) P w K mg base N qual (defScope st) f cdv A outer s H E) (defBody st) t ∧ t { nx := fun _ H' => Q .non H', rt := Q } (start N vs) H) : FnOk P w K mg base (L2N.CX P w) (k + 1) f fd ps sp := by
  obtain ⟨oc, od, kV, doc, pm, an, cdv, ct, osl, rfl, lk, hcd⟩ := F.ex
  exact fn_of lk hcd S len fun A outer s H vs Q E hr hsp => hbody cdv A outer s H vs Q E hr hsp
end Lv
set_option Elab.async false
set_option linter.all false
set_option maxRecDepth 100000
set_option maxHeartbeats 4000000
namespace Lv
open PySem PySem.Spec PyProof.Rows L2
/-- the keys met so far, each once -/
def met1 {κ : Type} [DecidableEq κ] (acc : List κ) (k : κ) : List κ := if k ∈ acc then acc else acc ++ [k]
theorem met1_in {κ : Type} [DecidableEq κ] {acc : List κ} {k : κ} (h : k ∈ acc) : met1 acc k = acc := if_pos h
theorem met1_out {κ : Type} [DecidableEq κ] {acc : List κ} {k : κ} (h : k ∉ acc) : met1 acc k = acc ++ [k] := if_neg h
def met {κ : Type} [DecidableEq κ] (ks : List κ) : List κ := ks.foldl met1 []
theorem met_snoc {κ : Type} [DecidableEq κ] (ks : List κ) (k : κ) : met (ks ++ [k]) = met1 (met ks) k := by
  unfold met
  rw [List.foldl_append]
  rfl
theorem met_len {κ : Type} [DecidableEq κ] : ∀ (ks : List κ) (acc : List κ), (ks.foldl met1 acc).length ≤ acc.length + ks.length
  | [], acc => Nat.le_refl _
  | k :: r, acc => by
    have ih := met_len r (met1 acc k)
    have h1 : (met1 acc k).length ≤ acc.length + 1 := by
      unfold met1
      split
      · omega
      · simp
    show (r.foldl met1 (met1 acc k)).length ≤ _
    rw [List.length_cons]
    omega
theorem met_all {κ : Type} [DecidableEq κ] : ∀ (ks acc : List κ), (acc ++ ks).Nodup → ks.foldl met1 acc = acc ++ ks
  | [], acc, _ => by simp
  | k :: r, acc, h => by
    have hk : k ∉ acc := fun hm => by
      have h2 := (List.nodup_append.mp h).2.2 k hm k (List.mem_cons_self)
      exact h2 rfl
    show r.foldl met1 (met1 acc k) = _
    rw [met1_out hk, met_all r (acc ++ [k]) (by rw [List.append_assoc]; exact h), List.append_assoc]
    rfl
theorem met_less {κ : Type} [DecidableEq κ] : ∀ (ks acc : List κ), acc.Nodup → ¬ (acc ++ ks).Nodup → (ks.foldl met1 acc).length < acc.length + ks.length
  | [], acc, h, h2 => by rw [List.append_nil] at h2; exact absurd h h2
  | k :: r, acc, h, h2 => by
    show (r.foldl met1 (met1 acc k)).length < _
    by_cases hk : k ∈ acc
    · have := met_len r acc
      rw [met1_in hk, List.length_cons]
      omega
    · have h3 : (acc ++ [k]).Nodup := List.nodup_append.mpr ⟨h, by simp, fun a ha b hb => by
        rw [List.mem_singleton] at hb
        subst hb
        exact fun e => hk (e ▸ ha)⟩
      have h4 : ¬ ((acc ++ [k]) ++ r).Nodup := by rw [List.append_assoc]; exact h2
      have ih := met_less r (acc ++ [k]) h3 h4
      rw [List.length_append, List.length_singleton] at ih
      rw [met1_out hk, List.length_cons]
      omega
/-- as many as there are just where none stands twice -/
theorem met_iff {κ : Type} [DecidableEq κ] (ks : List κ) : ((met ks).length = ks.length) ↔ ks.Nodup := by
  unfold met
  constructor
  · intro h
    by_cases hn : ks.Nodup
    · exact hn
    · have := met_less ks [] List.nodup_nil (by simpa using hn)
      simp at this
      omega
  · intro h
    rw [met_all ks [] (by simpa using h)]
    simp
section
variable {prog : Program} {w : World} {A : Around} {R : Result → Shared → Prop} {I : Addr} {fp wr : List Addr} {G : Array GenState → Array GenState → Prop} {n : Nat} {Pq : Nat → Value → Prop} {St : Nat → Shared → Prop}
variable {κ : Type} [DecidableEq κ] {knd : KeyKind prog w κ}
/-- the loop of set.update: behind i items the set has those met -/
theorem updLoop (Wk : WalksS prog w A.in1 I fp wr G n Pq St) (D : Addr) (hD : D ∉ fp) (ks : List κ) (hn : ks.length = n)
    (hv : ∀ i v, i < n → Pq i v → ∃ k, ks[i]? = some k ∧ knd.is k v = true ∧ v.scannable = true) (hb : n + 1 < scanBound) (m : Nat) : ∀ (i : Nat) (s : Shared), n - i = m → i ≤ n → St i s →
      s.heap.SetOf knd D (fun j => decide (j ∈ met (ks.take i))) (met (ks.take i)).length →
      (∀ s', Moved (D :: wr) G s s' → s'.heap.SetOf knd D (fun j => decide (j ∈ met ks)) (met ks).length → R (.ok (.ret .none)) s') →
      codeAny (model prog w) A (.builtin "set.update.loop" ⟨[.ref D, .ref I], []⟩) R s := by
  have hw : D ∉ wr := fun h => hD (Wk.sub _ h)
  have more : ∀ b ∈ wr, b ∈ D :: wr := fun b hb => List.mem_cons_of_mem _ hb
  induction m with
  | zero =>
    intro i s hm hi st hS hR
    obtain rfl : i = n := by omega
    refine codeAny_builtin PyProof.Rows.F.entry_set_update_loop ?_
    rw [Around.under_plainId PyProof.Rows.F.plain_set_update_loop _]
    show wpAny _ A.in1 (pyNext (.ref I) >>= _) _ _ s
    refine wpAny_bind (Wk.done s _ _ st fun s' mv => ?_)
    have e : ks.take i = ks := by rw [← hn, List.take_length]
    rw [e] at hS
    obtain ⟨o, es, ep, t, ho, r⟩ := hS
    exact wpAny_pure (hR s' (mv.mono more) ⟨o, es, ep, t, mv.heap D _ hw ho, r⟩)
  | succ m ih =>
    intro i s hm hi st hS hR
    have lt : i < n := by omega
    refine codeAny_builtin PyProof.Rows.F.entry_set_update_loop ?_
    rw [Around.under_plainId PyProof.Rows.F.plain_set_update_loop _]
    show wpAny _ A.in1 (pyNext (.ref I) >>= _) _ _ s
    refine wpAny_bind (Wk.item i s _ _ lt st fun v s' pv st' mv => ?_)
    obtain ⟨k, hk, hkv, hsc⟩ := hv i v lt pv
    have hS' : s'.heap.SetOf knd D (fun j => decide (j ∈ met (ks.take i))) (met (ks.take i)).length := by
      obtain ⟨o, es, ep, t, ho, r⟩ := hS
      exact ⟨o, es, ep, t, mv.heap D _ hw ho, r⟩
    show wpAny _ A.in1 (holding [v] (setAdd D v) >>= _) _ _ s'
    refine wpAny_bind (wpAny_holding ?_)
    unfold setAdd
    refine wpAny_holding (wpAny_bind (knd.pyHash (k := k) hkv ?_))
    have room : (met (ks.take i)).length + 1 < scanBound := by
      have := met_len (ks.take i) []
      rw [List.length_take] at this
      simp only [List.length_nil] at this
      unfold met
      omega
    refine wpAny_setAddHashed_of (knd := knd) (s := { s' with toks := s'.toks + 1 }) hkv hsc hS' room fun h' sb hS2 => ?_
    have et : ks.take (i + 1) = ks.take i ++ [k] := by
      rw [List.take_add_one, hk]; rfl
    have hS3 : h'.SetOf knd D (fun j => decide (j ∈ met (ks.take (i + 1)))) (met (ks.take (i + 1))).length := by
      rw [et, met_snoc]
      have e1 : (fun j => decide (j ∈ met (ks.take i)) || decide (j = k)) = fun j => decide (j ∈ met1 (met (ks.take i)) k) := by
        funext j
        unfold met1
        split
        · rename_i hin
          by_cases e : j = k
          · subst e; simp [hin]
          · simp [e]
        · simp [List.mem_append]
      have e2 : (if decide (k ∈ met (ks.take i)) = true then (met (ks.take i)).length else (met (ks.take i)).length + 1) = (met1 (met (ks.take i)) k).length := by
        unfold met1
        by_cases hin : k ∈ met (ks.take i)
        · rw [if_pos hin, if_pos (decide_eq_true hin)]
        · rw [if_neg hin, if_neg (by simpa using hin)]; simp
      rw [← e1, ← e2]
      exact hS2
    refine wpAny_pure ⟨plainId_quiet PyProof.Rows.F.plain_set_update_loop _, ih (i + 1) _ (by omega) lt (Wk.frame _ s' _ _ st' (Nat.le_succ _) fun b hb o e => ?_) hS3 fun s2 mv2 hS4 => ?_⟩
    · rw [sb.2 b (fun h : b = D => hD (by rw [← h]; exact hb))]; exact e
    · refine hR s2 (Moved.trans Wk.gtrans ((mv.mono more).then_heap (Nat.le_succ _) fun b o hb e => ?_) mv2) hS4
      rw [sb.2 b (fun h : b = D => hb (by rw [h]; exact List.mem_cons_self))]; exact e
end
section
variable {prog : Program} {w : World} {A : Around} {E : Value → Shared → Prop} {s : Shared}
variable {κ : Type} [DecidableEq κ] {knd : KeyKind prog w κ}
set_option maxHeartbeats 8000000 in
/-- set(xs) of a list of keys of one kind -/
theorem setList {l : Addr} {items : Array Value} {ks : List κ} {Q : Value → Shared → Prop} (hh : A.handled = none) (hl : s.heap.IsList l items) (hn : ks.length = items.size)
    (hv : ∀ (i : Nat) (v : Value), items[i]? = some v → ∃ k, ks[i]? = some k ∧ knd.is k v = true ∧ v.scannable = true) (hb : ks.length + 1 < scanBound)
    (h : ∀ (h' : Heap) (tk : Nat), h'.SetOf knd s.heap.objs.size (fun j => decide (j ∈ met ks)) (met ks).length → (∀ b o, b < s.heap.objs.size → s.heap.get? b = some o → h'.get? b = some o) → Q (.ref s.heap.objs.size) { s with heap := h', toks := tk }) :
    wpAny (model prog w) A (call (.type "set") [.ref l]) Q E s := by
  obtain ⟨c, tl, mro⟩ := PySem.F.called_set.mro
  have q1 := PySem.F.called_set.made
  have q2 := PySem.F.called_set.sub
  have q3 := PySem.F.called_set.notType
  have q4 := PySem.F.called_set.canCreate
  have q5 := PySem.F.typeCall_set_1 (.ref l)
  refine wpAny_call (codeAny_of_tree ?_)
  show wpAny _ _ (callAny (.type "set") _) _ _ _
  refine wpAny_pure ⟨Code.quiet_builtin _ (by decide +kernel), codeAny_builtin PySem.F.entry_type_call ?_⟩
  rw [Around.under_plain (weight_type_call_type "set" [.ref l] []) rfl]
  repeat (any_goals (first | assumption | wp_step))
  -- the new set
  refine codeAny_mono (code_set_new_1 (.ref l) (E := E) (Q₁ := fun ob s1 => ∃ led : Bool, ob = .ref s.heap.objs.size ∧ s1 = { s with heap := s.heap.push { cls := .type "set", dict := none, data := .set #[] 0 (.fresh 0 0 led) } }) fun led => ⟨led, rfl, rfl⟩) fun r s1 hr => ?_
  cases r with
  | error e => exact hr
  | ok fl =>
    cases fl with
    | next => exact hr.elim
    | brk => exact hr.elim
    | cont => exact hr.elim
    | ret ob =>
      obtain ⟨led, rfl, rfl⟩ := hr
      have hS : (s.heap.push { cls := .type "set", dict := none, data := .set #[] 0 (.fresh 0 0 led) }).get? s.heap.objs.size = some { cls := .type "set", dict := none, data := .set #[] 0 (.fresh 0 0 led) } := Heap.get?_push_size _ rfl
      have hT : Shared.TypeIs { s with heap := s.heap.push { cls := .type "set", dict := none, data := .set #[] 0 (.fresh 0 0 led) } } (.ref s.heap.objs.size) "set" := ⟨_, hS, rfl⟩
      have q6 := PySem.F.called_set.init.lookup
      have q7 := PySem.F.called_set.init.bind (.ref s.heap.objs.size)
      repeat (any_goals (first | assumption | wp_step))
      refine codeAny_mono (codeAny_call_builtin (R := wants (fun r s2 => r = .none ∧ ∃ h' tk, s2 = { s with heap := h', toks := tk } ∧ h'.SetOf knd s.heap.objs.size (fun j => decide (j ∈ met ks)) (met ks).length ∧
          (∀ b o, b < s.heap.objs.size → s.heap.get? b = some o → h'.get? b = some o)) E) PySem.F.called_set.init.plain PySem.F.entry_set_init (check_set_init_1 hT ?_)) fun r2 s2 hr2 => ?_
      · obtain ⟨⟨oc, od, odt, osl⟩, hol, hcl, nl, hdl⟩ := hl
        simp only at hcl hdl
        subst hcl
        subst hdl
        have hol' : (s.heap.push { cls := .type "set", dict := none, data := .set #[] 0 (.fresh 0 0 led) }).get? l = some { cls := .type "list", dict := od, data := .seq items nl, slots := osl } := Heap.get?_push_of_some _ hol
        have q8 := PySem.F.sub_list_set
        have q9 := PySem.F.sub_list_frozenset
        have q10 : (Value.type "list" == Value.type "dict") = false := by decide
        have hl1 : (s.heap.push { cls := .type "set", dict := none, data := .set #[] 0 (.fresh 0 0 led) }).IsList l items := ⟨_, hol', rfl, nl, rfl⟩
        unfold Builtin.«set.__init__» noKeywords Builtin.Frozenset.updateFrom
        generalize hPI : pyIter = PI
        wp_walk
        subst hPI
        refine wpAny_pyIter_list hl1 (wpAny_bind (wpAny_runValue ?_))
        have lS : l < s.heap.objs.size := Heap.lt_size hol
        have hh3 : A.in1.in1.in1.handled = none := by simp [hh]
        have nI : l ≠ (s.heap.push { cls := .type "set", dict := none, data := .set #[] 0 (.fresh 0 0 led) }).objs.size := by rw [Heap.size_push]; exact Nat.ne_of_lt (Nat.lt_succ_of_lt lS)
        have nS : s.heap.objs.size ∉ [(s.heap.push { cls := .type "set", dict := none, data := .set #[] 0 (.fresh 0 0 led) }).objs.size, l] := by
          rw [Heap.size_push]
          simp only [List.mem_cons, List.mem_singleton, List.not_mem_nil, or_false, not_or]
          exact ⟨Nat.ne_of_lt (Nat.lt_succ_self _), Nat.ne_of_gt lS⟩
        refine updLoop (knd := knd) ((Walks.list hh3 _ l nI items).toS) s.heap.objs.size nS ks hn (fun i v _ e => hv i v e) (by rw [← hn]; exact hb) (items.size - 0) 0 _ (by omega) (Nat.zero_le _)
          ⟨⟨_, Heap.get?_push_size _ rfl, rfl, rfl⟩, (hl1.push _)⟩ ?hS0 ?hR
        case hS0 =>
          have hget : ((s.heap.push { cls := .type "set", dict := none, data := .set #[] 0 (.fresh 0 0 led) }).push { cls := .type "list_iterator", data := .fields #[.ref l, .int 0 0] }).get? s.heap.objs.size = some { cls := .type "set", dict := none, data := .set #[] 0 (.fresh 0 0 led) } := Heap.get?_push_of_some _ hS
          exact SetOf_congr ((setObjOf_fresh (knd := knd) led).setOf hget (by unfold scanBound; omega)) (fun _ => rfl) rfl
        case hR =>
          intro s' mv hS'
          obtain ⟨h', g', d', tk', os'⟩ := s'
          obtain rfl : g' = s.gens := mv.gens
          obtain rfl : d' = s.drawn := mv.drawn
          obtain rfl : os' = s.os := mv.os
          refine wpAny_pure (wpAny_pure ⟨rfl, h', tk', rfl, hS', fun b o hb e => ?_⟩)
          refine mv.heap b o ?_ (Heap.get?_push_of_some _ (Heap.get?_push_of_some _ e))
          simp only [List.mem_cons, List.mem_singleton, List.not_mem_nil, or_false, not_or]
          exact ⟨Nat.ne_of_lt hb, by rw [Heap.size_push]; exact Nat.ne_of_lt (Nat.lt_succ_of_lt hb)⟩
      · cases r2 with
        | error e => exact hr2
        | ok fl2 =>
          cases fl2 with
          | next => exact hr2.elim
          | brk => exact hr2.elim
          | cont => exact hr2.elim
          | ret r =>
            obtain ⟨rfl, h', tk, rfl, hS', hk'⟩ := hr2
            repeat (any_goals (first | assumption | wp_step))
            exact h _ _ hS' hk'
end
end Lv
set_option Elab.async false
set_option linter.all false
set_option maxRecDepth 100000
set_option maxHeartbeats 4000000
namespace Lv
open PySem PySem.Spec PyProof.Rows L2
def tLenSetA (K : PySem.W.Frag) (ta : TE) : TE := fun σ H Q => ta σ H fun x H1 => ∃ l, ∃ xs : List Str, x = .ref l ∧ SqL K H1 l (xs.map V.str) ∧ xs.length ≤ 4000 ∧ Q (.int (met xs).length) H1
theorem strVals : ∀ {xs : List Str} {us : List Value} {i : Nat} {v : Value}, Vals (xs.map V.str) us → us[i]? = some v → ∃ k, xs[i]? = some k ∧ ∃ t, v = .str k t
  | [], _, i, v, .nil, e => by simp at e
  | x :: xs, _, 0, v, .cons r t, e => by
    obtain ⟨t, rfl⟩ := r
    cases e
    exact ⟨x, rfl, t, rfl⟩
  | x :: xs, _, i + 1, v, .cons r t, e => by
    obtain ⟨k, h1, h2⟩ := strVals (i := i) (v := v) t (by simpa using e)
    exact ⟨k, by simpa using h1, h2⟩
section
variable {X : Cx} {W : WX} {k : Nat} {tg e a b c : Expr} {es : List Expr} {pos p p2 q : Pos} {A B : AE} {As : AA} {s : S}
theorem pe_lenSetA {ta : TE} (hc : X.calm = true) (hg : Gl X "len") (hm : X.mg "len" = none) (hg2 : Gl X "set") (hm2 : X.mg "set" = none) (ha : PE X a ta) (na : starEach [a] X.env = (false, eval a X.env) :: starEach [] X.env := by rfl) :
    PE X (.Call (.Name "len" p) [.Call (.Name "set" p2) [a] [] q] [] pos) (tLenSetA X.K ta) := by
  refine ⟨fun pins s σ H Q I h => ?_⟩
  refine Call_ (ld_blt I hg hm boot_len (PyProof.Rows.callWith_builtin1 (PyProof.Rows.args_cons ?_ rfl) rfl rfl))
  refine Call_ (ld_blt I hg2 hm2 boot_set (PyProof.Rows.callWith_type1 (PyProof.Rows.args_cons (thn (ha.run pins s σ H _ I h) fun v s1 ⟨x, H1, I1, r1, l, xs, ex, hq, hz, q1⟩ => PyProof.Rows.args_nil ?_) na) na rfl))
  subst ex
  cases r1
  obtain ⟨its, r, pl, _⟩ := I1.list hq
  have hl : xs.length = its.toArray.size := by rw [List.size_toArray, ← r.length, List.length_map]
  refine setList (knd := PySem.strKind X.prog X.w) (ks := xs) (I1.ok.hd hc) pl.isList hl (fun i v e => ?_) (by unfold scanBound; omega) fun h' tk hS hk => PyProof.Rows.args_nil ?_
  · obtain ⟨k, h1, t, h2⟩ := strVals r (i := i) (v := v) (by rw [← e, ← Array.getElem?_toList])
    subst h2
    exact ⟨k, h1, PySem.strKind_is _ _ _ _, rfl⟩
  · obtain ⟨o, es, ep, t, ho, hex, hd, _, _, _, hf, hn⟩ := hS
    have I2 : Inv X pins σ H1 { s1 with heap := h', toks := tk } := I1.kept fun b o e => hk b o (Heap.lt_size e) e
    have hml := met_len xs []
    simp only [List.length_nil] at hml
    refine call_len_set ho hex hd hf (by rw [hn]; unfold met; omega) ⟨.int (met xs).length, H1, I2.tok _, ⟨_, by rw [hn]⟩, q1⟩
def qLenSet (A : AE) : AE := fun ρ M P Z => A ρ M (fun s M1 => ∃ xs : List Str, DL M1 s (strsD xs) ∧ xs.length ≤ 4000 ∧ P (.i (met xs).length) M1) Z
theorem qe_lenSet (cx : Cxt X W k) (hg : Gl X "len") (hm : X.mg "len" = none) (hg2 : Gl X "set") (hm2 : X.mg "set" = none) (ha : QE X W a A) (na : starEach [a] X.env = (false, eval a X.env) :: starEach [] X.env := by rfl) :
    QE X W (.Call (.Name "len" p) [.Call (.Name "set" p2) [a] [] q] [] pos) (qLenSet A) := pe_imp (pe_lenSetA cx.calm hg hm hg2 hm2 ha na) (by
  rintro σ H Q ⟨F, M, ρ, P, Z, st, sl, h, cv⟩
  refine ⟨F, M, ρ, _, Z, st, sl, h, ⟨?_, cv.z⟩⟩
  rintro F1 H1 M1 x s e1 st1 r1 ⟨xs, hd, hz, h1⟩
  obtain ⟨l, vs, rfl, hq, d⟩ := hd.sq st1 r1
  have e := dp_strs (bs := xs) d
  subst e
  exact ⟨l, xs, rfl, hq, hz, cv.q _ _ _ _ _ e1 st1 (.d (.int _)) h1⟩)
end
abbrev QK (X : Cx) (W : WX) (kws : List Keyword) (A : AA) : Prop := PK X kws (can X.K (RepA X.K kws.length) W A)
structure KCal (P : Program) (w : World) (K : PySem.W.Frag) (mg : Str → Option Value) (base : Heap) (k : Nat) (x : Str) (n : Nat) (ks ps : List Str) (sp : Sp2) : Prop where
  ex : ∃ f fd, FnOk2 P w K mg base k f fd ps sp ∧ mg x = some (.ref f) ∧ PySem.W.keepIn K (.ref f) = true ∧ KBn K fd ps n ks (fun us ws => us ++ ws) (fun vs zs => vs ++ zs)
def qCallK (sp : Sp2) (A B : AA) : AE := fun ρ M P Z => A ρ M (fun ss M1 => B ρ M1 (fun zs M2 => sp (ss ++ zs) M2 P Z) Z) Z
theorem pk_imp {X : Cx} {e : List Keyword} {t t' : TA} (h : PK X e t) (i : ∀ σ H Q, t' σ H Q → t σ H Q) : PK X e t' := ⟨fun pos pins s σ H Q I q => h.run pos pins s σ H Q I (i σ H Q q)⟩
section
variable {X : Cx} {W : WX} {k k' n : Nat} {tg e a b c : Expr} {es : List Expr} {pos p p2 q kpos : Pos} {A B : AE} {As Bs : AA} {s : S} {x : Str} {kws : List Keyword} {ks ps : List Str} {sp : Sp2} {nm : Option Str}
theorem qk_nil : QK X W [] qNil := pk_imp pk_nil (by rintro σ H Q ⟨F, M, ρ, P, Z, st, sl, h, cv⟩; exact cv.q F H M [] [] Ext.refl st ⟨.nil, rfl⟩ h)
theorem qk_cons (ha : QE X W e A) (hr : QK X W kws As) : QK X W (⟨nm, e, kpos⟩ :: kws) (qCons A As) := pk_imp (pk_cons ha hr) (by
  rintro σ H Q ⟨F, M, ρ, P, Z, st, sl, h, cv⟩
  refine ⟨F, M, ρ, _, Z, st, sl, h, ⟨fun F1 H1 M1 x s e1 st1 r1 h1 => ?_, cv.z⟩⟩
  refine ⟨F1, M1, ρ, _, Z, st1, sl.mono e1.ff, h1, ⟨fun F2 H2 M2 xs ss e2 st2 r2 h2 => ?_, (cv.mono e1).z⟩⟩
  exact cv.q F2 H2 M2 (x :: xs) (s :: ss) (e1.trans e2) st2 ⟨.cons (r1.mono e2.ff) r2.1, congrArg (· + 1) r2.2⟩ h2)
theorem qe_callK (cx : Cxt X W k') (G : KCal X.prog X.w X.K X.mg X.base k x n ks ps sp) (hk : k ≤ k') (hg : Gl X x) (ha : QAr X W (e :: es) As) (hb : QK X W kws Bs) (hn : (e :: es).length = n := by rfl) (hn2 : kws.length = ks.length := by rfl)
    (hall : (backToKw pos (keywordEach kws X.env)).all (·.1.isSome) = true := by rfl) (hks : (backToKw pos (keywordEach kws X.env)).filterMap (·.1) = ks := by rfl) (hdb : (x == ("__debug__" : Str)) = false := by decide)
    (he : starEach (e :: es) X.env = (false, eval e X.env) :: starEach es X.env := by rfl) (hpl : ((backTo pos (starEach (e :: es) X.env)).any (·.1) || (backToKw pos (keywordEach kws X.env)).any (·.1.isNone)) = false := by rfl) :
    QE X W (.Call (.Name x p) (e :: es) kws pos) (qCallK sp As Bs) := by
  obtain ⟨f, fd, Fo, hm, kp, bd⟩ := G.ex
  refine ⟨?_⟩
  rintro pins s σ H Q I ⟨F, M, ρ, P, Z, st, sl, h, cv⟩
  refine wpAny_Call_Name_kw (ld_glob I hg hm ?_ hdb)
  refine PySem.W.callWith_KW (h₀ := X.base) I.ok.mod.kin kp hall (thn (ha.run pos pins s σ H (fun vs H1 => (can X.K (RepA X.K kws.length) W Bs) σ H1 fun zs H2 => vs.length = n ∧ zs.length = ks.length ∧ lift X.K sp (vs ++ zs) H2 Q (WE W σ)) I ?_) fun us s1 ⟨vs, H1, I1, r, q⟩ => ?_) hpl he
  · refine ⟨F, M, ρ, _, Z, st, sl, h, ⟨fun F1 H1 M1 xs ss e1 st1 r1 h1 => ?_, cv.z⟩⟩
    refine ⟨F1, M1, ρ, _, Z, st1, sl.mono e1.ff, h1, ⟨fun F2 H2 M2 ys ts e2 st2 r2 h2 => ?_, (cv.mono e1).z⟩⟩
    refine ⟨by rw [r1.1.length, r1.2]; exact hn, by rw [r2.1.length, r2.2]; exact hn2, F2, M2, ss ++ ts, P, Z, st2, (r1.1.mono e2.ff).append r2.1, h2, (cv.mono (e1.trans e2)).q, (cv.mono (e1.trans e2)).z⟩
  · refine thn (hb.run pos pins s1 σ H1 _ I1 q) fun ws s2 ⟨zs, H2, I2, rz, l1, l2, q2⟩ => ⟨I2.kIn, ?_⟩
    rw [hks]
    have rr := bd.rel r rz
    refine wpAny_call (codeAny_mono (Fo.run X.A X.stack s2 H2 ⟨us, ks.zip ws⟩ (us ++ ws) (vs ++ zs) Q (WE W σ) cx.gd (cx.room.mono hk) I2.env0 (bd.to s2 us ws I2.kIn (r.length.symm.trans l1) (rz.length.symm.trans l2)) rr q2) fun r s' hq => ?_)
    cases r with
    | error e => exact L2N.passAt cx.tk σ pins H2 s2 e s' I2 hq
    | ok fl =>
      cases fl with
      | ret u => exact I2.after hq
      | next => exact hq.elim
      | brk => exact hq.elim
      | cont => exact hq.elim
end
abbrev FnD (K : PySem.W.Frag) (x qual : Str) (st : Stmt) (dvs : List V) (f : Addr) (fd : FuncData) : Prop := FunD K x qual (defArgs st) (defBody st) (defScope st) dvs [] f fd
section
variable {P : Program} {w : World} {K : PySem.W.Frag} {mg : Str → Option Value} {base : Heap}
theorem FunD.okG {x qual : Str} {st : Stmt} {dvs : List V} {f : Addr} {fd : FuncData} {N ps : List Str} {k : Nat} {sp : Sp} (Fn : FnD K x qual st dvs f fd) (Sc : FnScope N ps (defScope st)) (ln : ∀ xs H0 Q0 E0, sp xs H0 Q0 E0 → xs.length = ps.length)
    (body : ∀ (cdv : Value) (A0 : Around) (envs : List Env) (t : Shared) (H0 : Hp) (xs : List V) (Q0 : VK) (E0 : XK), A0.guards = some [] → Room k (A0.deeper (envOfC qual (defScope st) t.heap.objs.size f cdv)) → sp xs H0 Q0 E0 →
      ∃ T, PSs (cxOf (L2N.CX P w) P w K mg base N qual (defScope st) f cdv A0 envs t H0 E0) (defBody st) T ∧ T { nx := fun _ H1 => Q0 .non H1, rt := Q0 } (start N xs) H0) : FnOkG P w K mg base (L2N.CX P w) (k + 1) f fd ps sp := by
  obtain ⟨oc, od, dV, kV, doc, pm, an, cdv, ct, osl, rfl, lk, hcd, _, _⟩ := Fn.ex
  exact fnG lk hcd Sc ln fun A0 envs t H0 xs Q0 E0 gd rm h => body cdv A0 envs t H0 xs Q0 E0 gd rm h
theorem fn2D {x qual : Str} {st : Stmt} {dvs : List V} {f : Addr} {fd : FuncData} {N ps : List Str} {k : Nat} {sp : Sp2} (Fn : FnD K x qual st dvs f fd) (Sc : FnScope N ps (defScope st)) (len : ∀ ss M P Z, sp ss M P Z → ss.length = ps.length)
    (hbody : ∀ (cdv : Value) (A : Around) (outer : List Env) (s : Shared) (H : Hp) (E : XK), Cxt (cx2 P w K mg base N qual st f cdv A outer s H E) (WD E) k →
      ∃ T, QSs (cx2 P w K mg base N qual st f cdv A outer s H E) (WD E) (defBody st) T ∧ ∀ ss M Pq Z, sp ss M Pq Z → T { nx := fun _ M' => Pq .n M', rt := Pq, ex := fun C s _ M' => Z C s M' } (start2 N ss) M) : FnOk2 P w K mg base (k + 1) f fd ps sp := by
  refine FunD.okG Fn Sc (fun vs H Q E h => ?_) (fun cdv A outer s H vs Q E gd hr h => ?_)
  · obtain ⟨F, M, ss, P, Z, st, rp, h, _⟩ := h
    rw [rp.length]
    exact len _ _ _ _ h
  · obtain ⟨F, M, ss, Pq, Z, stt, rp, h, cq, cz⟩ := h
    have tk : L2N.Takes (cx2 P w K mg base N qual st f cdv A outer s H E) (WD E) := L2N.takes_of rfl rfl rfl rfl
    have ps : PassesOwn (model P w) (A.deeper (envOfC qual (defScope st) s.heap.objs.size f cdv)) (envOfC qual (defScope st) s.heap.objs.size f cdv) (cx2 P w K mg base N qual st f cdv A outer s H E).xe :=
      passes_of (K := fun e s'' => L2N.CX P w outer H s E e s'') (E₁ := fun e' s'' => L2N.CX P w outer H s E e' s'') (X := cx2 P w K mg base N qual st f cdv A outer s H E) rfl
    obtain ⟨T, hT, hq⟩ := hbody cdv A outer s H E ⟨tk, rfl, Sc.nd, hr, ps, gd⟩
    refine ⟨_, hT, F, M, start2 N ss, _, stt, slR_start rp, hq ss M Pq Z h, ⟨fun F' H' M' σ ρ e st _ p => cq F' H' M' .non .n e st (.d .non) p, fun F' H' M' v s e st r p => cq F' H' M' v s e st r p, fun _ _ _ _ _ _ _ _ z => z.elim, fun _ _ _ _ _ _ _ _ z => z.elim,
      fun F' H' M' σ ρ C d s e st _ x z => cz F' H' M' C d s e st x z⟩⟩
end
section
variable {κ : Type} [DecidableEq κ]
def putS (kvs : List (κ × S)) (k : κ) (v : S) : List (κ × S) := if (kvs.any fun kv => decide (kv.1 = k)) = true then kvs.map (fun kv => if kv.1 = k then (kv.1, v) else kv) else kvs ++ [(k, v)]
theorem RepF.snoc {K : PySem.W.Frag} {F : Hp} {a : κ × V} {b : κ × S} (r : a.1 = b.1 ∧ Rep K F a.2 b.2) : ∀ {l : List (κ × V)} {m : List (κ × S)}, RepF K F l m → RepF K F (l ++ [a]) (m ++ [b])
  | _, _, .nil => .cons r .nil
  | _, _, .cons r' t => .cons r' (RepF.snoc r t)
end
/-- sorted(d), its keys ints; sorted(xs) of texts, of ints -/
def intsD (ys : List Int) : List PyData := ys.map .int
section
variable {X : Cx} {W : WX} {k : Nat} {tg e a b c : Expr} {es : List Expr} {pos p p2 q : Pos} {A B : AE} {As : AA} {s : S}
end
end Lv
set_option Elab.async false
set_option linter.all false
set_option maxRecDepth 100000
set_option maxHeartbeats 4000000
namespace Lv
open PySem PySem.Spec PyProof.Rows L2
section
variable {X : Cx} {W : WX} {k : Nat} {tg e a b c : Expr} {es : List Expr} {pos p p2 q : Pos} {A B : AE} {As : AA} {s : S} {x : Str}
theorem qe_gS {z : Str} (hg : Gl X x) (h : ∃ u, X.mg x = some u ∧ RelV (.str z) u) (hd : (x == ("__debug__" : Str)) = false := by decide) : QE X W (.Name x pos) (qC (.s z)) := by
  obtain ⟨u, h1, h2⟩ := h
  exact qe_glob hg h1 h2 (fun _ => .d (.str _)) hd
theorem qe_gI {z : Int} (hg : Gl X x) (h : ∃ u, X.mg x = some u ∧ RelV (.int z) u) (hd : (x == ("__debug__" : Str)) = false := by decide) : QE X W (.Name x pos) (qC (.i z)) := by
  obtain ⟨u, h1, h2⟩ := h
  exact qe_glob hg h1 h2 (fun _ => .d (.int _)) hd
theorem qe_cls {C : Addr} (hg : Gl X x) (h : X.mg x = some (.ref C)) (hd : (x == ("__debug__" : Str)) = false := by decide) : QE X W (.Name x pos) (qC (.v (.ref C))) := qe_glob hg h (show RelV (.ref C) (.ref C) from rfl) (fun _ => .v) hd
theorem pe_cls {C : Addr} (hg : Gl X x) (h : X.mg x = some (.ref C)) (hd : (x == ("__debug__" : Str)) = false := by decide) : PE X (.Name x pos) (tC (.ref C)) := pe_glob hg h (show RelV (.ref C) (.ref C) from rfl) hd
theorem qe_ty {n : String} (hg : Gl X x) (hm : X.mg x = none) (hv : bootBuiltins x = some (.type n)) (hn : x ≠ "__name__" := by decide) (hd : (x == ("__debug__" : Str)) = false := by decide) : QE X W (.Name x pos) (qC (.v (.ty n))) := qe_bltn hg hm hv (show RelV (.ty n) (.type n) from rfl) hn hd
end
def GLv (G : AG) : Prop := ∀ s ρ M (N : Rl → Mem → Prop) Z, G s ρ M N Z → ∃ ρ' M', N ρ' M'
def GLs (Gs : AGs) (n : Nat) : Prop := ∀ ss ρ M (N : Rl → Mem → Prop) Z, Gs ss ρ M N Z → ss.length = n ∧ ∃ ρ' M', N ρ' M'
theorem gv_name {i : Nat} : GLv (qName i) := fun s ρ M N Z h => ⟨_, _, h⟩
theorem gl_nil : GLs qGNil 0 := fun ss ρ M N Z h => by
  cases ss with
  | nil => exact ⟨rfl, ρ, M, h⟩
  | cons _ _ => exact h.elim
theorem gl_cons {G : AG} {Gs : AGs} {n : Nat} (hG : GLv G) (h : GLs Gs n) : GLs (qGCons G Gs) (n + 1) := fun ss ρ M N Z z => by
  cases ss with
  | nil => exact z.elim
  | cons x r =>
    obtain ⟨ρ', M', z'⟩ := hG x ρ M _ Z z
    obtain ⟨h1, h2⟩ := h r ρ' M' N Z z'
    exact ⟨congrArg (· + 1) h1, h2⟩
section
variable {X : Cx} {W : WX} {k : Nat} {es : List Expr} {pos : Pos} {Gs : AGs} {vs : List Nat}
theorem qg_tuple {j n : Nat} (hc : X.calm = true) (h : QGs X W es Gs vs) (hl : GLs Gs n) (hz : es.length = n := by rfl) (hn : (assignEach es X.env).length = es.length := by rfl) (hst : (assignEach es X.env).findIdx? (·.1) = none := by rfl) :
    QG X W (.Tuple es j pos) (qGTup Gs) vs := qg_tup hc h (fun ss ρ M N Z z => (hl ss ρ M N Z z).1.trans hz.symm) hn hst
end
theorem eqv_str (a b : Str) : PyData.eqv (.str a) (.str b) = decide (a = b) := by
  rw [PyData.eqv]
  by_cases h : a = b
  · subst h; simp
  · simp [h]
theorem eqv_int (a b : Int) : PyData.eqv (.int a) (.int b) = decide (a = b) := by
  rw [PyData.eqv]
  by_cases h : a = b
  · subst h; simp
  · simp [h]
theorem in_strs (a : Str) : ∀ xs : List Str, ((strsD xs).any fun y => PyData.eqv y (.str a)) = decide (a ∈ xs)
  | [] => by simp [strsD]
  | x :: r => by
    show (PyData.eqv (.str x) (.str a) || (strsD r).any fun y => PyData.eqv y (.str a)) = _
    rw [eqv_str, in_strs a r]
    by_cases h : a = x
    · subst h; simp
    · simp [h, Ne.symm h]
theorem DL.len {M : Mem} {s : S} {ds : List PyData} (h : DL M s ds) : lenOf M s = some ds.length := by
  rcases h with h | ⟨p, h, h2⟩
  · subst h; rfl
  · subst h
    show (match M p with | some (.lst xs) => some xs.length | some (.dk l) => some l.length | _ => none) = _
    rw [h2]
    show some (ds.map S.d).length = _
    rw [List.length_map]
theorem DL.itemsS {M : Mem} {s : S} {ds : List PyData} (h : DL M s ds) : Lv.itemsS M s = some (ds.map S.d) := by
  rcases h with h | ⟨p, h, h2⟩
  · subst h; rfl
  · subst h
    show (match M p with | some (.lst xs) => some xs | _ => none) = _
    rw [h2]
theorem DL.cLen {M : Mem} {s : S} {ds : List PyData} {P : K2} (h : DL M s ds) (q : P (.i ds.length) M) : cLen [s] M P := by
  have hl := h.len
  rcases h with h | ⟨p, h, h2⟩
  · subst h; exact ⟨_, hl, q⟩
  · subst h; exact ⟨_, hl, q⟩
section
variable {items : List S} {ds : List PyData} {ok : Mem → Prop} {G : AG} {A : AE} {T : AT} {own : List Nat} {ρ : Rl} {M : Mem} {P : K2}
theorem lc_map (ds : List PyData) (hz : items.length < sizeLine) (hok : ok M) (hl : ds.length = items.length)
    (hs : ∀ (i : Nat) (x : S) (d : PyData) (Q : K2), items[i]? = some x → ds[i]? = some d → Q (.d d) M → G x (wipe2 ρ own) M (fun ρ2 M2 => A ρ2 M2 Q noX) noX) (hP : P (.d (.list ds)) M) :
    items.length < sizeLine ∧ ∃ Iv : Nat → List S → Mem → Prop, Iv 0 [] M ∧ (∀ i acc M, Iv i acc M → ok M) ∧
      (∀ i x acc M, items[i]? = some x → Iv i acc M → G x (wipe2 ρ own) M (fun ρ2 M2 => qYes ρ2 M2 (fun b M3 => BIf b (A ρ2 M3 (fun s M4 => Iv (i + 1) (acc ++ [s]) M4) noX) (Iv (i + 1) acc M3)) noX) noX) ∧
      ∀ acc M, Iv items.length acc M → enD acc M P := by
  refine ⟨hz, fun i acc M' => M' = M ∧ acc = (ds.take i).map S.d, ⟨rfl, by simp⟩, fun i acc M' h => by rw [h.1]; exact hok, fun i x acc M' hi h => ?_, fun acc M' h => ?_⟩
  · obtain ⟨rfl, rfl⟩ := h
    have hi2 : i < ds.length := by rw [hl]; exact (List.getElem?_eq_some_iff.mp hi).1
    have hd : ds[i]? = some ds[i] := List.getElem?_eq_getElem hi2
    refine hs i x ds[i] _ hi hd ⟨rfl, ?_⟩
    rw [List.take_succ, hd, List.map_append]
    rfl
  · obtain ⟨rfl, rfl⟩ := h
    exact ⟨_, rfl, by rw [List.take_of_length_le (by omega)]; exact hP⟩
theorem lc_mapL {α : Type} (l : List α) (f : α → S) (g : α → PyData) (hi : items = l.map f) (hz : l.length < sizeLine) (hok : ok M)
    (hs : ∀ a, a ∈ l → ∀ Q : K2, Q (.d (g a)) M → G (f a) (wipe2 ρ own) M (fun ρ2 M2 => A ρ2 M2 Q noX) noX) (hP : P (.d (.list (l.map g))) M) :
    items.length < sizeLine ∧ ∃ Iv : Nat → List S → Mem → Prop, Iv 0 [] M ∧ (∀ i acc M, Iv i acc M → ok M) ∧
      (∀ i x acc M, items[i]? = some x → Iv i acc M → G x (wipe2 ρ own) M (fun ρ2 M2 => qYes ρ2 M2 (fun b M3 => BIf b (A ρ2 M3 (fun s M4 => Iv (i + 1) (acc ++ [s]) M4) noX) (Iv (i + 1) acc M3)) noX) noX) ∧
      ∀ acc M, Iv items.length acc M → enD acc M P := by
  subst hi
  refine lc_map (l.map g) (by rw [List.length_map]; exact hz) hok (by rw [List.length_map, List.length_map]) (fun i x d Q h1 h2 q => ?_) hP
  rw [List.getElem?_map] at h1 h2
  cases e : l[i]? with
  | none => rw [e] at h1; cases h1
  | some a =>
    rw [e] at h1 h2
    cases h1
    cases h2
    exact hs a (List.mem_of_getElem? e) Q q
theorem lc_keepL {α : Type} (l : List α) (f : α → S) (g : α → PyData) (p : α → Bool) (hi : items = l.map f) (hz : l.length < sizeLine) (hok : ok M)
    (hs : ∀ a, a ∈ l → ∀ (Q : K2) (R : Mem → Prop), (p a = true → Q (.d (g a)) M) → (p a = false → R M) → G (f a) (wipe2 ρ own) M (fun ρ2 M2 => T ρ2 M2 (fun b M3 => BIf b (A ρ2 M3 Q noX) (R M3)) noX) noX) (hP : P (.d (.list ((l.filter p).map g))) M) :
    items.length < sizeLine ∧ ∃ Iv : Nat → List S → Mem → Prop, Iv 0 [] M ∧ (∀ i acc M, Iv i acc M → ok M) ∧
      (∀ i x acc M, items[i]? = some x → Iv i acc M → G x (wipe2 ρ own) M (fun ρ2 M2 => T ρ2 M2 (fun b M3 => BIf b (A ρ2 M3 (fun s M4 => Iv (i + 1) (acc ++ [s]) M4) noX) (Iv (i + 1) acc M3)) noX) noX) ∧
      ∀ acc M, Iv items.length acc M → enD acc M P := by
  subst hi
  refine ⟨by rw [List.length_map]; exact hz, fun i acc M' => M' = M ∧ acc = (((l.take i).filter p).map g).map S.d, ⟨rfl, by simp⟩, fun i acc M' h => by rw [h.1]; exact hok, fun i x acc M' hi h => ?_, fun acc M' h => ?_⟩
  · obtain ⟨rfl, rfl⟩ := h
    rw [List.getElem?_map] at hi
    cases e : l[i]? with
    | none => rw [e] at hi; cases hi
    | some a =>
      rw [e] at hi
      cases hi
      refine hs a (List.mem_of_getElem? e) _ _ (fun hp => ⟨rfl, ?_⟩) (fun hp => ⟨rfl, ?_⟩)
      · rw [List.take_succ, e, List.filter_append, List.map_append, List.map_append]
        simp [hp]
      · rw [List.take_succ, e, List.filter_append, List.map_append, List.map_append]
        simp [hp]
  · obtain ⟨rfl, rfl⟩ := h
    rw [List.length_map]
    exact ⟨_, rfl, by rw [List.take_of_length_le (by omega)]; exact hP⟩
end
def Gw (M M' : Mem) : Prop := ∀ q o, M q = some o → M' q = some o
theorem Gw.refl {M : Mem} : Gw M M := fun _ _ h => h
theorem Gw.trans {M M1 M2 : Mem} (a : Gw M M1) (b : Gw M1 M2) : Gw M M2 := fun q o h => b q o (a q o h)
theorem Gw.put {M M1 : Mem} {p : Addr} {o : MO} (a : Gw M M1) (h : M p = none) : Gw M (mput M1 p o) := fun q u e => by
  rw [mput_ne fun z => ?_]
  · exact a q u e
  · subst z; rw [h] at e; cases e
theorem Gw.del {M M1 : Mem} {p : Addr} (a : Gw M M1) (h : M p = none) : Gw M (mdel M1 p) := fun q u e => by
  rw [mdel_ne fun z => ?_]
  · exact a q u e
  · subst z; rw [h] at e; cases e
theorem Gw.none {M M1 : Mem} {p : Addr} (a : Gw M M1) (h : M1 p = none) : M p = none := by
  cases e : M p with
  | none => rfl
  | some o => rw [a p o e] at h; cases h
end Lv
set_option Elab.async false
set_option linter.all false
set_option maxRecDepth 100000
set_option maxHeartbeats 4000000
namespace Lv
open PySem PySem.Spec PyProof.Rows L2
def SqB (K : PySem.W.Frag) (t : Bool) (H : Hp) (a : Addr) (xs : List V) : Prop := match t with
  | true => SqT K H a xs
  | false => SqL K H a xs
section
variable {X : Cx} {pins : List (Addr × Obj)} {σ : L2.St} {H : Hp} {s : Shared}
end
/-- a list or a tuple of these data -/
def DS (M : Mem) (s : S) (ds : List PyData) : Prop := DL M s ds ∨ s = .d (.tuple ds)
def flagB : S → Bool
  | .d (.tuple _) => true
  | _ => false
theorem DS.sq {K : PySem.W.Frag} {F H : Hp} {M : Mem} {s : S} {u : V} {ds : List PyData} (st : Stt K F H M) (r : Rep K F u s) (h : DS M s ds) : ∃ a vs, u = .ref a ∧ SqB K (flagB s) H a vs ∧ DpAll K F vs ds := by
  rcases h with h | h
  · obtain ⟨a, vs, rfl, hq, d⟩ := h.sq st r
    have e : flagB s = false := by
      rcases h with h | ⟨p, h, _⟩ <;> subst h <;> rfl
    rw [e]
    exact ⟨a, vs, rfl, hq, d⟩
  · subst h
    obtain ⟨a, vs, rfl, hq, d⟩ := rep_tuple r
    exact ⟨a, vs, rfl, sameT st.sub hq, d⟩
section
variable {X : Cx} {W : WX} {k : Nat} {tg e a b c : Expr} {es : List Expr} {pos p p2 q : Pos} {A B : AE} {As : AA} {s : S}
end
def oNeD : O2 := fun s t M P => ∃ d e, DV M s d ∧ DV M t e ∧ min d.depth e.depth ≤ 60 ∧ P (.b (!PyData.eqv d e)) M
theorem sNeD {K : PySem.W.Frag} : OpS K (rNeP K) oNeD := by
  intro F H M x y s t P Q st rx ry ⟨d, e, h1, h2, h3, h4⟩ q
  exact ⟨d, e, h1.dp st rx, h2.dp st ry, h3, q F H M _ _ Ext.refl st (.d (.bl _)) h4⟩
section
variable {X : Cx} {W : WX} {k : Nat} {tg e a b c : Expr} {lo hi : Option Expr} {es : List Expr} {pos p p2 q : Pos} {A B : AE} {As : AA} {s : S} {L U : AO}
theorem qt_neD (c : Cxt X W k) (ha : QE X W a A) (hb : QE X W b B) : QT X W (.Compare a [.NotEq] [b] pos) (qTest (qOp oNeD A B)) := qt_cmp (op_neP c.room.units) sNeD ha hb (nomark _)
end
end Lv
set_option Elab.async false
set_option linter.all false
set_option maxRecDepth 100000
set_option maxHeartbeats 4000000
namespace Lv
open PySem PySem.Spec PyProof.Rows L2
section
variable {X : Cx} {W : WX} {k k' : Nat} {tg e a b c o : Expr} {es : List Expr} {pos pos' p p2 apos cpos : Pos} {A B : AE} {As : AA} {s : S} {f m x : Str} {C fA : Addr} {fd : FuncData} {ps : List Str} {sp : Sp2}
end
def cInt1 : C2 := fun ss M P => match ss with
  | [.d (.bool b)] => P (.i (if b = true then 1 else 0)) M
  | [.d (.int i)] => P (.i i) M
  | _ => False
theorem sInt1 {K : PySem.W.Frag} : CallS K (fun xs H Q => (∃ i, xs = [.int i] ∧ Q (.int i) H) ∨ ∃ k, xs = [.bl k] ∧ Q (.int (if k then 1 else 0)) H) cInt1 := by
  intro F H M xs ss P Q st rl h q
  unfold cInt1 at h
  split at h
  · cases rl with
    | cons r rr =>
      cases rr
      rw [rep_bool r]
      exact .inr ⟨_, rfl, q _ _ _ _ _ Ext.refl st (.d (.int _)) h⟩
  · cases rl with
    | cons r rr =>
      cases rr
      rw [rep_int r]
      exact .inl ⟨_, rfl, q _ _ _ _ _ Ext.refl st (.d (.int _)) h⟩
  · exact h.elim
section
variable {X : Cx} {W : WX} {a : Expr} {pos p : Pos} {As : AA}
theorem qe_int1 (hg : Gl X "int") (hm : X.mg "int" = none) (ha : QAr X W [a] As) (he : starEach [a] X.env = (false, eval a X.env) :: starEach [] X.env := by rfl) (hpl : (backTo pos (starEach [] X.env)).any (·.1) = false := by rfl) : QE X W (.Call (.Name "int" p) [a] [] pos) (qCB cInt1 As) :=
  qe_callTy call_int1 sInt1 hg hm (by decide +kernel) ha (by decide) (by decide) he hpl
end
end Lv
set_option Elab.async false
set_option linter.all false
set_option maxRecDepth 100000
set_option maxHeartbeats 4000000
namespace Lv
open PySem PySem.Spec PyProof.Rows L2
section
variable {X : Cx} {W : WX} {k : Nat} {es : List Expr} {pos : Pos} {Gs : AGs} {vs : List Nat}
end
section
variable {X : Cx} {W : WX} {k : Nat} {keys : List (Option Expr)} {values : List Expr} {pos : Pos}
end
end Lv
set_option Elab.async false
set_option linter.all false
set_option maxRecDepth 100000
set_option maxHeartbeats 4000000
namespace Lv
open PySem PySem.Spec PyProof.Rows L2
section
variable {X : Cx} {pins : List (Addr × Obj)} {σ : L2.St} {H : Hp} {s : Shared}
end
section
variable {X : Cx} {W : WX} {k : Nat} {a : Expr} {pos p : Pos} {As : AA}
end
end Lv
set_option Elab.async false
set_option linter.all false
set_option maxRecDepth 100000
set_option maxHeartbeats 4000000
namespace Lv
open PySem PySem.Spec PyProof.Rows L2
section
variable {X : Cx} {W : WX} {k k' n : Nat} {tg e a b c : Expr} {es : List Expr} {pos p p2 q kpos : Pos} {A B : AE} {As Bs : AA} {s : S} {x : Str} {kws : List Keyword} {ks ps : List Str} {sp : Sp2} {gS : List S → List S}
end
end Lv
set_option Elab.async false
set_option linter.all false
set_option maxRecDepth 100000
set_option maxHeartbeats 4000000
namespace Lv
open PySem PySem.Spec PyProof.Rows L2
theorem take_split {α : Type} {l : List α} {i : Nat} {a : α} (e : l[i]? = some a) : l = l.take i ++ a :: l.drop (i + 1) := by
  obtain ⟨h1, h2⟩ := List.getElem?_eq_some_iff.mp e
  subst h2
  rw [← List.drop_eq_getElem_cons h1, List.take_append_drop]
theorem take_one {α : Type} {l : List α} {i : Nat} {a : α} (e : l[i]? = some a) : l.take i ++ [a] = l.take (i + 1) := by
  rw [List.take_succ, e]
  rfl
theorem mem_mid {α : Type} {l d r : List α} {a : α} (e : l = d ++ a :: r) : a ∈ l := by subst e; simp
section
variable {items : List S} {ok : Mem → Prop} {G : AG} {A : AE} {T : AT} {own : List Nat} {ρ : Rl} {M : Mem} {P : K2} {En : List S → Mem → K2 → Prop}
theorem lcL {α : Type} (l : List α) (f : α → S) (J : List α → List S → Mem → Prop) (hi : items = l.map f) (hz : l.length < sizeLine) (h0 : J [] [] M) (hok : ∀ d acc M, J d acc M → ok M)
    (hs : ∀ done a rest acc M, l = done ++ a :: rest → J done acc M → G (f a) (wipe2 ρ own) M (fun ρ2 M2 => T ρ2 M2 (fun b M3 => BIf b (A ρ2 M3 (fun s M4 => J (done ++ [a]) (acc ++ [s]) M4) noX) (J (done ++ [a]) acc M3)) noX) noX)
    (he : ∀ acc M, J l acc M → En acc M P) :
    items.length < sizeLine ∧ ∃ Iv : Nat → List S → Mem → Prop, Iv 0 [] M ∧ (∀ i acc M, Iv i acc M → ok M) ∧
      (∀ i x acc M, items[i]? = some x → Iv i acc M → G x (wipe2 ρ own) M (fun ρ2 M2 => T ρ2 M2 (fun b M3 => BIf b (A ρ2 M3 (fun s M4 => Iv (i + 1) (acc ++ [s]) M4) noX) (Iv (i + 1) acc M3)) noX) noX) ∧
      ∀ acc M, Iv items.length acc M → En acc M P := by
  subst hi
  refine ⟨by rw [List.length_map]; exact hz, fun i acc M' => J (l.take i) acc M', by simpa using h0, fun i acc M' h => hok _ _ _ h, fun i x acc M' hi h => ?_, fun acc M' h => ?_⟩
  · rw [List.getElem?_map] at hi
    cases e : l[i]? with
    | none => rw [e] at hi; cases hi
    | some a =>
      rw [e] at hi; cases hi
      have h2 := hs (l.take i) a (l.drop (i + 1)) acc M' (take_split e) h
      rw [take_one e] at h2
      exact h2
  · rw [List.length_map, List.take_length] at h
    exact he acc M' h
end
theorem forL {α : Type} {items : List S} {ok : Mem → Prop} {ρ : Rl} {M : Mem} {G : AG} {T : AS} {R : K2} {Bk : Rl → Mem → Prop} {Ex : Addr → S → Rl → Mem → Prop} {E : Rl → Mem → Prop}
    (l : List α) (f : α → S) (J : List α → Rl → Mem → Prop) (hi : items = l.map f) (h0 : J [] ρ M) (hok : ∀ d ρ M, J d ρ M → ok M)
    (hs : ∀ done a rest ρ M, l = done ++ a :: rest → J done ρ M → G (f a) ρ M (fun ρ' M' => T ⟨J (done ++ [a]), R, Bk, J (done ++ [a]), Ex⟩ ρ' M') (fun C s M => Ex C s ρ M))
    (he : ∀ ρ M, J l ρ M → E ρ M) :
    ∃ Iv : Nat → Rl → Mem → Prop, Iv 0 ρ M ∧ (∀ i ρ M, Iv i ρ M → ok M) ∧
      (∀ i x ρ M, items[i]? = some x → Iv i ρ M → G x ρ M (fun ρ' M' => T ⟨Iv (i + 1), R, Bk, Iv (i + 1), Ex⟩ ρ' M') (fun C s M => Ex C s ρ M)) ∧
      ∀ ρ M, Iv items.length ρ M → E ρ M := by
  subst hi
  refine ⟨fun i ρ M' => J (l.take i) ρ M', by simpa using h0, fun i ρ M' h => hok _ _ _ h, fun i x ρ M' hi h => ?_, fun ρ M' h => ?_⟩
  · rw [List.getElem?_map] at hi
    cases e : l[i]? with
    | none => rw [e] at hi; cases hi
    | some a =>
      rw [e] at hi; cases hi
      have h2 := hs (l.take i) a (l.drop (i + 1)) ρ M' (take_split e) h
      rw [take_one e] at h2
      exact h2
  · rw [List.length_map, List.take_length] at h
    exact he ρ M' h
theorem atI_k {α : Type} {xs : List α} {i : Nat} {z : Int} {x : α} (hz : z = (i : Int)) (h : xs[i]? = some x) : atI xs z = some x := by
  have hl := (List.getElem?_eq_some_iff.mp h).1
  subst hz
  unfold atI ixN
  rw [if_pos (by omega), if_pos (by omega)]
  exact h
theorem size_le {n m : Nat} (h : n ≤ m) (h2 : m < sizeLine := by decide) : n < sizeLine := Nat.lt_of_le_of_lt h h2
theorem isL_of {M : Mem} {p : Addr} {xs : List S} (h : M p = some (.lst xs)) : isL M (.a p) := ⟨xs, by
  show (match M p with | some (.lst xs) => some xs | _ => none) = _
  rw [h]⟩
theorem itemsS_of {M : Mem} {p : Addr} {xs : List S} (h : M p = some (.lst xs)) : itemsS M (.a p) = some xs := by
  show (match M p with | some (.lst xs) => some xs | _ => none) = _
  rw [h]
theorem lenOf_of {M : Mem} {p : Addr} {xs : List S} (h : M p = some (.lst xs)) : lenOf M (.a p) = some xs.length := by
  show (match M p with | some (.lst xs) => some xs.length | some (.dk l) => some l.length | _ => none) = _
  rw [h]
theorem DL.of {M : Mem} {p : Addr} {ds : List PyData} (h : M p = some (.lst (ds.map S.d))) : DL M (.a p) ds := .inr ⟨p, rfl, h⟩
theorem DV.of {M : Mem} {p : Addr} {ds : List PyData} (h : M p = some (.lst (ds.map S.d))) : DV M (.a p) (.list ds) := .inr ⟨p, ds, rfl, h, rfl⟩
def Clean : Nat → PyData → Prop
  | _, .none => True
  | _, .bool _ => False
  | _, .int _ => True
  | _, .str _ => True
  | 0, .list _ => False
  | 0, .tuple _ => False
  | n + 1, .list ds => ∀ d, d ∈ ds → Clean n d
  | n + 1, .tuple ds => ∀ d, d ∈ ds → Clean n d
  | _, .dict _ => False
theorem Clean.up : ∀ {n : Nat} {x : PyData}, Clean n x → Clean (n + 1) x
  | _, .none, _ => trivial
  | n, .bool _, h => by cases n <;> exact h.elim
  | _, .int _, _ => trivial
  | _, .str _, _ => trivial
  | 0, .list _, h => h.elim
  | 0, .tuple _, h => h.elim
  | _ + 1, .list _, h => fun d hd => Clean.up (h d hd)
  | _ + 1, .tuple _, h => fun d hd => Clean.up (h d hd)
  | 0, .dict _, h => h.elim
  | _ + 1, .dict _, h => h.elim
theorem Clean.le {n m : Nat} {x : PyData} (h : Clean n x) (l : n ≤ m) : Clean m x := by
  induction l with
  | refl => exact h
  | step _ ih => exact ih.up
theorem dAll_le {n : Nat} : ∀ {xs : List PyData}, (∀ x, x ∈ xs → x.depth ≤ n) → PyData.depthAll xs ≤ n
  | [], _ => by rw [PyData.depthAll]; exact Nat.zero_le _
  | x :: r, h => by
    rw [PyData.depthAll]
    exact Nat.max_le.mpr ⟨h x (List.mem_cons_self ..), dAll_le fun y hy => h y (List.mem_cons_of_mem _ hy)⟩
theorem Clean.depth : ∀ {n : Nat} {x : PyData}, Clean n x → x.depth ≤ n + 1
  | _, .none, _ => by simp [PyData.depth]
  | n, .bool _, h => by cases n <;> exact h.elim
  | _, .int _, _ => by simp [PyData.depth]
  | _, .str _, _ => by simp [PyData.depth]
  | 0, .list _, h => h.elim
  | 0, .tuple _, h => h.elim
  | n + 1, .list ds, h => by
    rw [PyData.depth]
    have := dAll_le (n := n + 1) fun x hx => (h x hx).depth
    omega
  | n + 1, .tuple ds, h => by
    rw [PyData.depth]
    have := dAll_le (n := n + 1) fun x hx => (h x hx).depth
    omega
  | 0, .dict _, h => h.elim
  | _ + 1, .dict _, h => h.elim
theorem eqvAll_iff : ∀ {xs ys : List PyData}, (∀ x, x ∈ xs → ∀ y, y ∈ ys → (PyData.eqv x y = true ↔ x = y)) → (PyData.eqvAll xs ys = true ↔ xs = ys)
  | [], [], _ => by simp [PyData.eqvAll]
  | [], _ :: _, _ => by simp [PyData.eqvAll]
  | _ :: _, [], _ => by simp [PyData.eqvAll]
  | x :: xs, y :: ys, h => by
    rw [PyData.eqvAll, Bool.and_eq_true, h x (List.mem_cons_self ..) y (List.mem_cons_self ..), eqvAll_iff fun a ha b hb => h a (List.mem_cons_of_mem _ ha) b (List.mem_cons_of_mem _ hb)]
    simp
theorem clean_eqv : ∀ {n : Nat} {x : PyData} {m : Nat} {y : PyData}, Clean n x → Clean m y → (PyData.eqv x y = true ↔ x = y) := by
  intro n
  induction n with
  | zero =>
    intro x m y hx hy
    cases x with
    | none => cases y <;> simp [PyData.eqv]
    | bool b => exact hx.elim
    | int i =>
      cases y with
      | bool b => cases m <;> exact hy.elim
      | int j => rw [eqv_int]; simp
      | _ => simp [PyData.eqv]
    | str s =>
      cases y with
      | str t => rw [eqv_str]; simp
      | _ => simp [PyData.eqv]
    | list _ => exact hx.elim
    | tuple _ => exact hx.elim
    | dict _ => exact hx.elim
  | succ n ih =>
    intro x m y hx hy
    cases x with
    | none => cases y <;> simp [PyData.eqv]
    | bool b => exact hx.elim
    | int i =>
      cases y with
      | bool b => cases m <;> exact hy.elim
      | int j => rw [eqv_int]; simp
      | _ => simp [PyData.eqv]
    | str s =>
      cases y with
      | str t => rw [eqv_str]; simp
      | _ => simp [PyData.eqv]
    | list xs =>
      cases y with
      | list ys =>
        cases m with
        | zero => exact hy.elim
        | succ m =>
          rw [PyData.eqv, eqvAll_iff fun a ha b hb => ih (hx a ha) (hy b hb)]
          simp
      | _ => simp [PyData.eqv]
    | tuple xs =>
      cases y with
      | tuple ys =>
        cases m with
        | zero => exact hy.elim
        | succ m =>
          rw [PyData.eqv, eqvAll_iff fun a ha b hb => ih (hx a ha) (hy b hb)]
          simp
      | _ => simp [PyData.eqv]
    | dict _ => exact hx.elim
theorem putS_new' {κ : Type} [DecidableEq κ] {kvs : List (κ × S)} {k : κ} {v : S} (h : ∀ q, q ∈ kvs → q.1 ≠ k) : putS kvs k v = kvs ++ [(k, v)] := by
  unfold putS
  rw [if_neg]
  simp only [List.any_eq_true, decide_eq_true_eq, not_exists, not_and]
  exact fun q hq => h q hq
end Lv
set_option Elab.async false
set_option linter.all false
set_option maxRecDepth 100000
set_option maxHeartbeats 4000000
namespace Lv
open PySem PySem.Spec PyProof.Rows L2
section
variable {X : Cx} {W : WX} {k : Nat} {e a b c : Expr} {es : List Expr} {pos p p2 p3 q : Pos} {A B C : AE} {As : AA}
def rSetL (K : PySem.W.Frag) (w : World) : List V → Hp → VK → Prop := fun xs H Q => ∃ (l : Addr) (ns : List Int), xs = [V.ref l] ∧ SqL K H l (ns.map V.int) ∧ ns.length ≤ 4000 ∧ ∀ p c, H p = none → c ≤ ns.length → Q (.ref p) (upd H p (SetO w p (fun j => decide (j ∈ ns)) c))
end
end Lv
set_option Elab.async false
set_option linter.all false
set_option maxRecDepth 100000
set_option maxHeartbeats 1000000
namespace Lv
open PySem PySem.Spec PyProof.Rows L2
def repS (x : Str) (n : Nat) : Str := ⟨(List.replicate n x.cps).foldl (· ++ ·) #[]⟩
theorem fold_len {n : Nat} {x acc : Array Nat} : ((List.replicate n x).foldl (· ++ ·) acc).size = acc.size + n * x.size := by
  induction n generalizing acc with
  | zero => simp
  | succ n ih =>
    rw [List.replicate_succ, List.foldl_cons, ih, Array.size_append, Nat.succ_mul]
    omega
theorem fold_list {n : Nat} {x acc : Array Nat} : ((List.replicate n x).foldl (· ++ ·) acc).toList = acc.toList ++ (List.replicate n x.toList).flatten := by
  induction n generalizing acc with
  | zero => simp
  | succ n ih =>
    rw [List.replicate_succ, List.foldl_cons, ih, Array.toList_append, List.replicate_succ, List.flatten_cons, List.append_assoc]
theorem repS_len (x : Str) (n : Nat) : (repS x n).length = n * x.length := by
  show ((List.replicate n x.cps).foldl (· ++ ·) #[]).size = _
  rw [fold_len]
  show 0 + n * x.cps.size = n * x.cps.size
  omega
theorem repS_cps (x : Str) (n : Nat) : (repS x n).cps.toList = (List.replicate n x.cps.toList).flatten := by
  show ((List.replicate n x.cps).foldl (· ++ ·) #[]).toList = _
  rw [fold_list]
  simp
section
variable {X : Cx} {W : WX} {k : Nat} {e a b c : Expr} {es : List Expr} {pos p p2 p3 q : Pos} {A B C : AE} {As : AA}
def rRepS : R2 := fun x y H Q => ∃ (a : Str) (i : Int), x = .str a ∧ y = .int i ∧ 2 ≤ i ∧ i ≤ 1000 ∧ 1 ≤ a.length ∧ a.length ≤ 1000 ∧ Q (.str (repS a i.toNat)) H
theorem op_repS : OpR X (binaryOp .Mult) rRepS := by
  intro pins s σ H x y v u Q I rx ry h
  obtain ⟨a, i, rfl, rfl, h1, h2, l1, l2, q⟩ := h
  obtain ⟨t, rfl⟩ := rx
  obtain ⟨t', rfl⟩ := ry
  have e1 : (i == 1) = false := by simp; omega
  have e2 : (a.length == 0) = false := by simp; omega
  refine P.mul_str ?_ (fun _ _ => ?_) (fun _ _ => ?_) ?_
  · rw [decide_eq_false (by omega), decide_eq_false (by omega)]
    rfl
  · have : (9223372036854775807 : Int) / i ≥ 9223372036854775 := by
      have := Int.le_ediv_of_mul_le (a := 9223372036854775) (b := 9223372036854775807) (c := i) (by omega) (by omega)
      omega
    have e : (2 ^ 63 - 1 : Int) = 9223372036854775807 := by decide
    rw [e]
    omega
  · have : a.length * i.toNat ≤ 1000 * 1000 := Nat.mul_le_mul l2 (by omega)
    have e : sizeLine = 16777216 := sizeLine_eq
    show decide (a.length * i.toNat > sizeLine) = false
    rw [decide_eq_false (by omega)]
  · rw [if_neg (by omega), e1, e2]
    refine ⟨?_, ⟨.str (repS a i.toNat), H, I.tok _, ⟨_, rfl⟩, q⟩⟩
    have : i.toNat * a.length ≤ 1000 * 1000 := Nat.mul_le_mul (by omega) l2
    have e : sizeLine = 16777216 := sizeLine_eq
    show (repS a i.toNat).length ≤ sizeLine
    rw [repS_len]
    omega
def oMulS : O2 := fun s t M P => match s, t with
  | .d (.str a), .d (.int i) => 2 ≤ i ∧ i ≤ 1000 ∧ 1 ≤ a.length ∧ a.length ≤ 1000 ∧ P (.s (repS a i.toNat)) M
  | _, _ => False
theorem sMulS {K : PySem.W.Frag} : OpS K rRepS oMulS := by
  intro F H M x y s t P Q st rx ry h q
  unfold oMulS at h
  split at h
  · rename_i a i
    obtain ⟨h1, h2, h3, h4, h5⟩ := h
    exact ⟨a, i, rep_str rx, rep_int ry, h1, h2, h3, h4, q F H M _ _ Ext.refl st (.d (.str _)) h5⟩
  · exact h.elim
theorem qe_mulS (ha : QE X W a A) (hb : QE X W b B) : QE X W (.BinOp a .Mult b pos) (qOp oMulS A B) := qe_op op_repS sMulS ha hb
end
def qSeqC (T U : AS) : AS := fun D ρ M => ∃ J : Rl → Mem → Prop, T { D with nx := J } ρ M ∧ ∀ ρ' M', J ρ' M' → U D ρ' M'
theorem seqC_sim {K : PySem.W.Frag} {W : WX} {T U : AS} {D : Ends} {σ : L2.St} {H : Hp} (h : canS K W (qSeqC T U) D σ H) : canS K W T { D with nx := fun σ H => canS K W U D σ H } σ H := by
  obtain ⟨F, M, ρ, D2, st, sl, ⟨J, h1, h2⟩, cv⟩ := h
  exact ⟨F, M, ρ, _, st, sl, h1, ⟨fun F' H' M' σ' ρ' e' st' sl' hn => ⟨F', M', ρ', D2, st', sl', h2 ρ' M' hn, cv.mono e'⟩, cv.rt, cv.bk, cv.ct, cv.ex⟩⟩
theorem qs_consC {X : Cx} {W : WX} {st : Stmt} {sts : List Stmt} {T U : AS} (h1 : QS X W st T) (h2 : QSs X W sts U) : QSs X W (st :: sts) (qSeqC T U) := pss_imp (pss_cons h1 h2) fun D σ H h => seqC_sim h
end Lv
set_option Elab.async false
set_option linter.all false
set_option maxRecDepth 100000
set_option maxHeartbeats 1000000
namespace Lv
open PySem PySem.Spec PyProof.Rows L2
section
variable {X : Cx} {W : WX} {k k' : Nat} {tg e a b c o : Expr} {es : List Expr} {pos pos' p p2 apos cpos : Pos} {A B : AE} {As Bs : AA} {s : S} {f m x : Str} {C fA : Addr} {fd : FuncData} {ps ks : List Str} {sp : Sp2} {kws : List Keyword}
end
end Lv
set_option Elab.async false
set_option linter.all false
set_option maxRecDepth 100000
set_option maxHeartbeats 1000000
namespace Lv
open PySem PySem.Spec PyProof.Rows L2
section
variable {X : Cx} {W : WX} {k k' : Nat} {tg e a b c o : Expr} {es : List Expr} {pos pos' p p2 apos cpos : Pos} {A B : AE} {As Bs : AA} {s : S}
end
end Lv
set_option Elab.async false
set_option linter.all false
set_option maxRecDepth 100000
set_option maxHeartbeats 1000000
namespace Lv
open PySem PySem.Spec PyProof.Rows L2
section
variable {X : Cx} {W : WX} {k k' : Nat} {tg e a b c o : Expr} {es : List Expr} {pos pos' p p2 apos cpos : Pos} {A B : AE} {As Bs : AA} {s : S}
abbrev oFdivW : O2 := oI CDivW fun i j => .i (i / j)
theorem qe_fdivW (ha : QE X W a A) (hb : QE X W b B) : QE X W (.BinOp a .FloorDiv b pos) (qOp oFdivW A B) := qe_op op_fdivW (sI fun _ _ _ => .d (.int _)) ha hb
/-- e.what in a suite of except -/
theorem qe_whatH {K : PySem.W.Frag} (he : QE X W e A) (hb : attributeBase e "what" X.env (eval e X.env) = eval e X.env := by rfl) (hK : X.K = K := by rfl) : QE X W (.Attribute e "what" pos) (qWhat K A) := by
  subst hK
  exact qe_what he hb
end
end Lv
set_option Elab.async false
set_option linter.all false
set_option maxRecDepth 100000
set_option maxHeartbeats 1000000
namespace Lv
open PySem PySem.Spec PyProof.Rows L2
theorem lift_mono {K : PySem.W.Frag} {sp : Sp2} {vs : List V} {H : Hp} {Q Q' : VK} {E E' : XK} (h : lift K sp vs H Q E) (hq : ∀ v H, Q v H → Q' v H) (he : ∀ c d H, E c d H → E' c d H) : lift K sp vs H Q' E' := by
  obtain ⟨F, M, ss, P, Z, h1, h2, h3, h4, h5⟩ := h
  exact ⟨F, M, ss, P, Z, h1, h2, h3, fun a b c d e f g i j => hq _ _ (h4 a b c d e f g i j), fun a b c d e f g i j k => he _ _ _ (h5 a b c d e f g i j k)⟩
section
variable {M : Model} {prog : Program} {w : World} {A : Around} {E : Value → Shared → Prop} {s : Shared} {K : PySem.W.Frag} {x y C f : Addr} {ox oy : Obj} {od od' : Option Obj}
theorem ifBound_objNe {args : List Value} {Q : Option Value → Shared → Prop} (X : K.In s.heap) (I : PySem.W.InstAt s.heap x ox C od) (hs : PySem.W.findIn K (.ref C) "__ne__" = some (some (.builtin "object.__ne__")))
    (h : wpAny M A (call (.builtin "object.__ne__") (.ref x :: args)) (fun v => Q (some v)) E s) : wpAny M A (callSpecialIfBound? (.ref x) "__ne__" args) Q E s := by
  simp only [callSpecialIfBound?, bindSpecialIfBound?]
  refine wpAny_holding (wpAny_bind (wpAny_bind (wpAny_bind (I.type.here ((PySem.W.looks_findIn X hs).here ?_)))))
  refine wpAny_bind (wpAny_askSetting (wpAny_ite ?_))
  have fin : wpAny M A (call (.builtin "object.__ne__") ([.ref x] ++ args) >>= fun v => pure (some v)) Q E s := wpAny_bind (wpAny_mono h (fun v s' h' => wpAny_pure h') fun _ _ h' => h')
  split
  · exact wpAny_bind (wpAny_of_eq (F.cmp_object.ne.bind _) (wpAny_pure (by exact fin)))
  · exact wpAny_tryCatch (wpAny_bind (wpAny_of_eq (F.cmp_object.ne.bind _) (wpAny_pure (by exact fin))))
theorem objNe_entry (X : K.In s.heap) (I : PySem.W.InstAt s.heap x ox C od) (he : PySem.W.findIn K (.ref C) "__eq__" = some (some (.ref f))) (hf : PySem.W.isFn K (.ref f) = true) (hu : A.units < cLine) {Q : Fin → Shared → Prop}
    (hcall : wpAny (model prog w) A (call (.ref f) [.ref x, .ref y]) (fun v s' => ∃ b, v = .bool b ∧ Q (.done (.ret (.bool (!b)))) s') E s) :
    wpAny (model prog w) A (Builtin.«object.__ne__» ⟨[.ref x, .ref y], []⟩) Q E s := by
  unfold Builtin.«object.__ne__»
  repeat (first
    | with_reducible refine wpAny_cRoomFor hu ?_
    | (refine wpAny_bind (m := callSpecialIfBound? (.ref x) (Str.ofString "__eq__") [.ref y])
        (PySem.W.ifBound_K X I he hf (wpAny_mono hcall (fun r s' hr => by
          obtain ⟨b, rfl, hq⟩ := hr
          repeat (first | exact hq | exact wpAny_pure hq | exact wpAny_truthy_bool hq | (refine wpAny_bind (m := truthy (.bool _)) (wpAny_truthy_bool ?_)) | wp_step)) fun _ _ e => e)))
    | wp_step)
theorem rc_ne (hu : A.units + 1 < cLine) (X : K.In s.heap) (I : PySem.W.InstAt s.heap x ox C od) (I' : PySem.W.InstAt s.heap y oy C od') (hm : PySem.W.mroIn K C (.type "object") = some true)
    (he : PySem.W.findIn K (.ref C) "__eq__" = some (some (.ref f))) (hf : PySem.W.isFn K (.ref f) = true) (hn : PySem.W.findIn K (.ref C) "__ne__" = some (some (.builtin "object.__ne__"))) {Q : Value → Shared → Prop}
    (hcall : wpAny (model prog w) A.in1 (call (.ref f) [.ref x, .ref y]) (fun v s' => ∃ b, v = .bool b ∧ Q (.bool (!b)) s') E s) : wpAny (model prog w) A (richCompare .NotEq (.ref x) (.ref y)) Q E s := by
  have one : wpAny (model prog w) A (tryCompare (.ref x) "__ne__" (.ref y)) (fun r s' => ∃ b, r = some (.bool b) ∧ Q (.bool b) s') E s := by
    unfold tryCompare
    refine wpAny_bind (ifBound_objNe X I hn (wpAny_call (codeAny_call_builtin F.cmp_object.ne.plain F.cmpEntry_ne (PySem.W.check_slot F.cmpKind_ne F.cmpSplit_ne (I.type.andThen (PySem.W.looks_mroIn X hm)) (F.cmpArgs_ne _ _)
      (objNe_entry (A := A.in1) X I he hf (by have := hu; simpa using this) (wpAny_mono hcall (fun v s' hv => ?_) fun _ _ e => e))))))
    obtain ⟨b, rfl, hq⟩ := hv
    first | exact ⟨b, rfl, wpAny_pure ⟨_, rfl, hq⟩⟩ | exact ⟨b, rfl, ⟨_, rfl, hq⟩⟩
  unfold richCompare
  simp only [oneThing_ref]
  refine wpAny_holding ?_
  refine wpAny_bind (wpAny_cRoomFor (Nat.lt_of_succ_lt hu) ?_)
  rw [cmpInfo_NotEq]
  dsimp only
  refine wpAny_bind (I.type.here (wpAny_bind (I'.type.here ?_)))
  rw [show (Value.ref C != Value.ref C) = false from by simp]
  simp only [Bool.false_eq_true, if_false]
  refine wpAny_bind (wpAny_pure ?_)
  simp only [Bool.false_eq_true, if_false]
  refine wpAny_bind (wpAny_mono one (fun r s' z => ?_) fun _ _ e => e)
  obtain ⟨b, rfl, hq⟩ := z
  first | exact wpAny_pure hq | exact wpAny_pure (wpAny_pure hq)
end
section
variable {X : Cx} {W : WX} {k k' : Nat} {a b : Expr} {pos : Pos} {A B : AE} {C f : Addr} {fd : FuncData} {ps : List Str} {sp : Sp2}
/-- a class that has an own __eq__ -/
structure EqCal (P : Program) (w : World) (K : PySem.W.Frag) (mg : Str → Option Value) (base : Heap) (k : Nat) (C : Addr) (ps : List Str) (sp : Sp2) : Prop where
  ex : ∃ f fd, Meth K C "__eq__" f ∧ FnOk2 P w K mg base k f fd ps sp ∧ Binds K fd ps []
  ne : PySem.W.findIn K (.ref C) "__ne__" = some (some (.builtin "object.__ne__"))
  mro : PySem.W.mroIn K C (.type "object") = some true
def noXK : XK := fun _ _ _ => False
def rOwnB (C : Addr) (sp : Sp) (g : Bool → Bool) : R2 := fun x y H Q => ∃ a b dx dy fs gs, x = .ref a ∧ y = .ref b ∧ H a = some (.ins C dx fs) ∧ H b = some (.ins C dy gs) ∧ sp [.ref a, .ref b] H (fun v H' => ∃ r, v = .bl r ∧ Q (.bl (g r)) H') noXK
theorem op_ownNe (cx : Cxt X W k') (hk : k + 1 ≤ k') (G : EqCal X.prog X.w X.K X.mg X.base k C ps sp) : OpR X (compareOp .NotEq) (rOwnB C (lift X.K sp) fun r => !r) := by
  intro pins s σ H x y v u Q I rx ry h
  obtain ⟨a, b, dx, dy, fs, gs, rfl, rfl, ha, hb, q⟩ := h
  obtain ⟨f, fd, hm, Fo, bd⟩ := G.ex
  cases rx
  cases ry
  obtain ⟨mA, J, _⟩ := ins_get I.hok ha
  obtain ⟨mB, J', _⟩ := ins_get I.hok hb
  obtain ⟨od, J, _⟩ := J.look
  obtain ⟨od', J', _⟩ := J'.look
  have hr : Room (k + 1) X.A := cx.room.mono hk
  show wpAny (model X.prog X.w) X.A (richCompare .NotEq (.ref a) (.ref b)) (EP X pins σ Q) X.xe s
  refine rc_ne (by have := hr.in1.units0; simpa using this) I.kIn J J' G.mro hm.at_ hm.fn G.ne ?_
  have e0 := I.env0.in1
  have r2 : Vals [V.ref a, V.ref b] [Value.ref a, Value.ref b] := .cons rfl (.cons rfl .nil)
  have q' := lift_mono (E' := WE W σ) q (fun _ _ h => h) fun _ _ _ h => h.elim
  have hl := Fo.len _ _ _ _ q'
  have bb := bd s [.ref a, .ref b] I.kIn (by simpa using hl)
  rw [List.append_nil] at bb
  refine wpAny_call (codeAny_mono (Fo.run X.A.in1 X.stack s H ⟨[.ref a, .ref b], []⟩ [.ref a, .ref b] [.ref a, .ref b] _ (WE W σ) cx.gd hr.in1 e0 bb r2 q') fun r s' hq => ?_)
  cases r with
  | error e => exact L2N.passAt cx.tk σ pins H s e s' I hq
  | ok fl =>
    cases fl with
    | ret w' =>
      obtain ⟨z, H', I', rz, r, ez, qz⟩ := I.after hq
      subst ez
      obtain rfl : w' = Value.bool r := rz
      exact ⟨r, rfl, .bl (!r), H', I', rfl, qz⟩
    | next => exact False.elim hq
    | brk => exact False.elim hq
    | cont => exact False.elim hq
def oOwn (C : Addr) (sp : Sp2) (g : Bool → Bool) : O2 := fun s t M P => ∃ p q fs gs, s = .a p ∧ t = .a q ∧ M p = some (.ins C fs) ∧ M q = some (.ins C gs) ∧ sp [s, t] M (fun v M' => match v with
  | .d (.bool r) => P (.b (g r)) M'
  | _ => False) noX
theorem sOwn {K : PySem.W.Frag} {g : Bool → Bool} : OpS K (rOwnB C (lift K sp) g) (oOwn C sp g) := by
  intro F H M x y s t P Q st rx ry ⟨p, q', fs, gs, hs, ht, hp, hq, h⟩ q
  subst hs ht
  rw [rep_v rx, rep_v ry]
  obtain ⟨_, ho, hh, dx, gs1, rfl, hr⟩ := st.mem _ _ hp
  obtain ⟨_, ho2, hh2, dy, gs2, rfl, hr2⟩ := st.mem _ _ hq
  refine ⟨p, q', dx, dy, gs1, gs2, rfl, rfl, hh, hh2, F, M, _, _, noX, st, .cons .v (.cons .v .nil), h, fun F' H' M' v s e1 st1 r1 h1 => ?_, fun _ _ _ _ _ _ _ _ _ h => h.elim⟩
  split at h1
  · rw [rep_bool r1]
    exact ⟨_, rfl, q F' H' M' _ _ e1 st1 (.d (.bl _)) h1⟩
  · exact h1.elim
theorem qt_ownNe (cx : Cxt X W k') (G : EqCal X.prog X.w X.K X.mg X.base k C ps sp) (hk : k + 1 ≤ k') (ha : QE X W a A) (hb : QE X W b B) : QT X W (.Compare a [.NotEq] [b] pos) (qTest (qOp (oOwn C sp fun r => !r) A B)) := qt_cmp (op_ownNe cx hk G) sOwn ha hb (nomark _)
end
end Lv
set_option Elab.async false
set_option linter.all false
set_option maxRecDepth 100000
set_option maxHeartbeats 1000000
namespace Lv1c
open PySem PySem.SeqAt
open AutoSeq1 (wpAny_loadPart')
open MeetsSeq MeetsSeq2 MeetsSeq3 SeqRoads2
section
variable {prog : Program} {w : World} {A : Around} {R : Result → Shared → Prop}
end
end Lv1c
namespace Lv
open PySem PySem.Spec PyProof.Rows L2
section
variable {X : Cx} {W : WX} {k k' : Nat} {a b : Expr} {pos : Pos} {A B : AE} {C f : Addr} {fd : FuncData} {ps : List Str} {sp : Sp2}
end
end Lv
set_option Elab.async false
set_option linter.all false
set_option maxRecDepth 100000
set_option maxHeartbeats 1000000
namespace Lv
open PySem PySem.Spec PyProof.Rows L2
/-- what becomes of an error of the body, the clauses one after the other -/
def hMany (K : PySem.W.Frag) (D : E2) : List (Value × AS) → Addr → S → Rl → Mem → Prop
  | [] => D.ex
  | (c, U) :: r => fun C s ρ M => ∃ b, PySem.W.exmOne K (.ref C) c = some b ∧ BIf b (U ⟨D.nx, D.rt, D.bk, D.ct, fun _ _ _ _ => False⟩ ρ M) (hMany K D r C s ρ M)
def qTryM (K : PySem.W.Frag) (l : List (Value × AS)) (T : AS) : AS := fun D ρ M => T ⟨D.nx, D.rt, D.bk, D.ct, hMany K D l⟩ ρ M
inductive HdsQ (X : Cx) : List ExceptHandler → List (Value × AS) → Prop
  | nil : HdsQ X [] []
  | cons {x : Str} {c : Value} {b₀ : Stmt} {suite : List Stmt} {np pos' : Pos} {U : AS} {hds : List ExceptHandler} {l : List (Value × AS)} (hc : Names X x c)
      (hsu : ∀ (a : Addr) (pn : List (Addr × Obj)), QSs (X.suite a pn) W0 (b₀ :: suite) U) (r : HdsQ X hds l) : HdsQ X (.ExceptHandler (some (.Name x np)) none (b₀ :: suite) pos' :: hds) ((c, U) :: l)
theorem HdsQ.ok {X : Cx} {hds : List ExceptHandler} {l : List (Value × AS)} (h : HdsQ X hds l) : L2N.HdsOk X hds (l.map fun p => (p.1, fun _ _ _ => canS X.K W0 p.2)) := by
  induction h with
  | nil => exact .nil
  | cons hc hsu _ ih => exact .cons hc (fun a oe cls d pn _ _ => hsu a _) ih
section
variable {X : Cx} {W : WX} {k : Nat} {body : List Stmt} {h₀ : ExceptHandler} {hds : List ExceptHandler} {l : List (Value × AS)} {pos : Pos} {T : AS}
theorem qs_tryM (cx : Cxt X W k) (hs : X.stack = X.env :: X.outer) (hf : X.env.frame = some X.env.locals)
    (hb : ∀ (W' : WX) (pn : List (Addr × Obj)) (xe : Value → Shared → Prop), Cxt (X.tr pn xe) W' k → QSs (X.tr pn xe) W' body T) (hh : HdsQ X (h₀ :: hds) l) :
    QS X W (.Try body (h₀ :: hds) [] [] pos) (qTryM X.K l T) := by
  refine ps_imp (L2N.ps_try_many (tb := fun W' => canS X.K W' T) hs hf cx.tk (fun W' pn xe tk ps => hb W' pn xe (cx.tr tk ps)) hh.ok) ?_
  rintro D σ H ⟨F, M, ρ, D2, st, sl, h, cv⟩
  refine ⟨F, M, ρ, _, st, sl, h, ⟨cv.nx, cv.rt, cv.bk, cv.ct, fun F1 H1 M1 σ1 ρ1 C d s e1 st1 sl1 xa h1 => ?_⟩⟩
  have go : ∀ l : List (Value × AS), hMany X.K D2 l C s ρ1 M1 → wMany X.K W D (l.map fun p => (p.1, fun _ _ _ => canS X.K W0 p.2)) (.ref C) (some d) σ1 H1 := fun l => by
    induction l with
    | nil => intro h1; exact cv.ex F1 H1 M1 σ1 ρ1 C d s e1 st1 sl1 xa h1
    | cons p r ih =>
      rintro ⟨b, hb, h1⟩
      refine ⟨b, hb, fun eb a ha => ?_, fun eb => ?_⟩
      · subst eb
        exact ⟨F1, M1, ρ1, _, st1, sl1, h1, ⟨fun F' H' M' σ' ρ' e' st' sl' q => cv.nx F' H' M' _ _ (e1.trans e') st' sl' q, fun F' H' M' v s e' => cv.rt F' H' M' v s (e1.trans e'), fun F' H' M' σ' ρ' e' st' sl' q => cv.bk F' H' M' _ _ (e1.trans e') st' sl' q,
          fun F' H' M' σ' ρ' e' st' sl' q => cv.ct F' H' M' _ _ (e1.trans e') st' sl' q, fun _ _ _ _ _ _ _ _ _ _ _ _ z => z.elim⟩⟩
      · subst eb
        exact ih h1
  exact go l h1
end
end Lv
set_option Elab.async false
set_option linter.all false
set_option maxRecDepth 100000
set_option maxHeartbeats 1000000
namespace Lv
open PySem PySem.Spec PyProof.Rows L2
section
variable {X : Cx} {W : WX} {k k' : Nat} {tg e a b c o : Expr} {es : List Expr} {pos pos' p p2 apos cpos : Pos} {A B : AE} {As Bs : AA} {s : S}
/-- isinstance of an error in a suite of except -/
theorem qe_isXH {K : PySem.W.Frag} {u : Value} (hg : Gl X "isinstance") (hm : X.mg "isinstance" = none) (ha : QAr X W [a, b] As) (he : starEach [a, b] X.env = (false, eval a X.env) :: starEach [b] X.env := by rfl) (hpl : (backTo pos (starEach [b] X.env)).any (·.1) = false := by rfl) (hK : X.K = K := by rfl) :
    QE X W (.Call (.Name "isinstance" p) [a, b] [] pos) (qCB (cIsX K u) As) := by
  subst hK
  exact qe_isX hg hm ha he hpl
theorem qe_isXTH {K : PySem.W.Frag} {es : List Expr} {vs : List V} {us : List Value} {x1} {tpos : Pos} (hg : Gl X "isinstance") (hm : X.mg "isinstance" = none) (ha : QE X W a A) (ht : QTys X es vs us) (hz : es.length ≤ 1000 := by decide)
    (he : starEach [a, .Tuple es x1 tpos] X.env = (false, eval a X.env) :: starEach [.Tuple es x1 tpos] X.env := by rfl) (he2 : starEach [.Tuple es x1 tpos] X.env = (false, eval (.Tuple es x1 tpos) X.env) :: starEach [] X.env := by rfl) (hpl : (backTo pos (starEach [.Tuple es x1 tpos] X.env)).any (·.1) = false := by rfl) (hK : X.K = K := by rfl) :
    QE X W (.Call (.Name "isinstance" p) [a, .Tuple es x1 tpos] [] pos) (qIsXT K us A) := by
  subst hK
  exact qe_isXT hg hm ha ht hz he he2 hpl
end
end Lv
set_option Elab.async false
set_option linter.all false
set_option maxRecDepth 100000
set_option maxHeartbeats 1000000
namespace Lv
open PySem PySem.Spec PyProof.Rows L2
section
variable {X : Cx} {W : WX} {k k' : Nat} {e : Expr} {es : List Expr} {pos p : Pos} {A : AE} {As : AA} {x : Str} {C : Addr}
end
end Lv
set_option Elab.async false
set_option linter.all false
set_option maxRecDepth 100000
set_option maxHeartbeats 4000000
namespace Lv
open PySem PySem.Spec PySem.W PySem.Calls PyProof.Rows PySem.HandSPX L2
section
variable {Mo : Model} {A : Around} {E : Value → Shared → Prop} {h : Heap} {g : Array GenState} {d : Drawn} {t : Nat} {os : OsState}
variable {nm q : Str} {C N : Addr} {bs bm bmB : List Value} {hdct : Bool} {sn : List Str} {sub : List Value} {ab : Bool} {col : Option Bool} {dd : Option Addr} {k0 k1 k2 k3 k5 : Option Value} {B newId initId : String}
end
section
variable {prog : Program} {w : World} {A : Around} {E : Value → Shared → Prop} {R : Result → Shared → Prop} {h : Heap} {g : Array GenState} {d : Drawn} {t : Nat} {os : OsState}
variable {nm q : Str} {C N : Addr} {bs bm bmB : List Value} {hdct : Bool} {sn : List Str} {sub : List Value} {ab : Bool} {col : Option Bool} {dd : Option Addr} {k0 k1 k2 k3 k5 : Option Value} {B newId initId : String}
end
section
variable {X : Cx} {kws : List Keyword} {tk : TA} {p pos : Pos}
end
section
variable {X : Cx} {W : WX} {k k' : Nat} {e : Expr} {es : List Expr} {pos p : Pos} {A : AE} {As : AA} {x : Str} {C : Addr} {kws : List Keyword}
end
end Lv
set_option Elab.async false
set_option linter.all false
set_option maxRecDepth 100000
set_option maxHeartbeats 2000000
namespace Lv
open PySem PySem.Spec PyProof.Rows L2
section
variable {prog : Program} {w : World} {A : Around} {E : Value → Shared → Prop} {s : Shared}
/-- what a starred unpacking leaves: all that was there, and one list more -/
theorem starL {l : Addr} {items : Array Value} {n i : Nat} {Q : List Value → Shared → Prop} (hl : s.heap.IsList l items) (hh : A.handled = none) (hi : i < n) (hn : n ≤ items.size + 1) (hz : items.size ≤ 16384)
    (h : ∀ (D : Addr) (h' : Heap) (tk : Nat), (∀ b o, s.heap.get? b = some o → h'.get? b = some o) → s.heap.get? D = none → h'.get? D = some { cls := .type "list", data := .seq ((items.toList.drop i).take (items.size + 1 - n)).toArray } →
      Q (items.toList.take i ++ [.ref D] ++ (items.toList.drop i).drop (items.size + 1 - n)) { s with heap := h', toks := tk }) : wpAny (model prog w) A (unpackItems (.ref l) n (some i)) Q E s := by
  have ne : l ≠ s.heap.objs.size := by obtain ⟨o, ho, _⟩ := hl; exact Nat.ne_of_lt (Heap.lt_size ho)
  unfold unpackItems
  refine wpAny_bind ?_
  unfold notIterableAtAll
  refine wpAny_bind (wpAny_specialOf hl.typeIs slot_list_iter.lookup ?_)
  refine wpAny_pure ?_
  simp only [Bool.false_eq_true, if_false]
  refine wpAny_bind (wpAny_holding (wpAny_pyIter_list hl ?_))
  refine wpAny_bind (wpAny_holding (PySem.W.kun_draw ne i 0 _ _ ⟨_, Heap.get?_push_size _ rfl, rfl, rfl⟩ (hl.push _) (by omega) fun h₁ it₁ sb => ?_))
  have hl1 : h₁.IsList l items := (hl.push _).extBut sb.extBut ne
  rw [Nat.zero_add] at it₁
  obtain ⟨oi, hoi, _⟩ := id it₁
  obtain ⟨ol, hol, _⟩ := id hl1
  rw [List.drop_zero]
  have e1 : (items.toList.take i).length = i := by rw [List.length_take, Array.length_toList]; omega
  rw [if_neg (show ¬ ((items.toList.take i).length < i) by rw [e1]; omega)]
  refine wpAny_bind (wpAny_holding (PySem.W.kun_collect (s := { s with heap := h₁ }) (T := "list_iterator") (.inr (.inr (.inl rfl))) (Walks.list (A := A.in1) hh s.heap.objs.size l ne items) (fun j u st => st.1.typeIs) (k := i) (by omega) ⟨it₁, hl1⟩ (Heap.lt_size hoi) (Heap.lt_size hol) (fun h₂ tk hk => ?_) (by rw [sizeLine_eq]; omega)))
  have e2 : (items.toList.drop i).length = items.size - i := by rw [List.length_drop, Array.length_toList]
  have e3 : (items.toList.drop i).length - (n - 1 - i) = items.size + 1 - n := by rw [e2]; omega
  show wpAny _ _ (if (items.toList.drop i).length < n - 1 - i then _ else _) _ _ _
  rw [if_neg (by rw [e2]; omega)]
  show wpAny _ _ (newList ((items.toList.drop i).take ((items.toList.drop i).length - (n - 1 - i))) >>= fun d => pure (items.toList.take i ++ [d] ++ (items.toList.drop i).drop ((items.toList.drop i).length - (n - 1 - i)))) _ _ _
  rw [e3]
  have kp : ∀ b o, s.heap.get? b = some o → h₂.get? b = some o := fun b o e => by
    have nb : b ≠ s.heap.objs.size := Nat.ne_of_lt (Heap.lt_size e)
    exact hk b o nb (sb.extBut b o nb (Heap.get?_push_of_some _ e))
  have fr : s.heap.get? h₂.objs.size = none := by
    cases e : s.heap.get? h₂.objs.size with
    | none => rfl
    | some o => exact absurd (Heap.lt_size (kp _ o e)) (Nat.lt_irrefl _)
  exact wpAny_bind (wpAny_newList (wpAny_pure (h _ _ tk (fun b o e => Heap.get?_push_of_some _ (kp b o e)) fr (Heap.get?_push_size _ rfl))) (by rw [List.length_take, e2, sizeLine_eq]; omega))
theorem starT {l : Addr} {items : Array Value} {n i : Nat} {Q : List Value → Shared → Prop} (hl : IsTup s.heap l items) (hh : A.handled = none) (hi : i < n) (hn : n ≤ items.size + 1) (hz : items.size ≤ 16384)
    (h : ∀ (D : Addr) (h' : Heap) (tk : Nat), (∀ b o, s.heap.get? b = some o → h'.get? b = some o) → s.heap.get? D = none → h'.get? D = some { cls := .type "list", data := .seq ((items.toList.drop i).take (items.size + 1 - n)).toArray } →
      Q (items.toList.take i ++ [.ref D] ++ (items.toList.drop i).drop (items.size + 1 - n)) { s with heap := h', toks := tk }) : wpAny (model prog w) A (unpackItems (.ref l) n (some i)) Q E s := by
  have ne : l ≠ s.heap.objs.size := by obtain ⟨o, ho, _⟩ := hl; exact Nat.ne_of_lt (Heap.lt_size ho)
  unfold unpackItems
  refine wpAny_bind ?_
  unfold notIterableAtAll
  refine wpAny_bind (wpAny_specialOf hl.typeIs slot_tuple_iter.lookup ?_)
  refine wpAny_pure ?_
  simp only [Bool.false_eq_true, if_false]
  refine wpAny_bind (wpAny_holding (iter_tuple hl ?_))
  refine wpAny_bind (wpAny_holding (draw_tuple ne i 0 _ _ ⟨_, Heap.get?_push_size _ rfl, rfl, rfl⟩ (hl.push _) (by omega) fun h₁ it₁ sb => ?_))
  have hl1 : IsTup h₁ l items := (hl.push _).extBut sb.extBut ne
  rw [Nat.zero_add] at it₁
  obtain ⟨oi, hoi, _⟩ := id it₁
  obtain ⟨ol, hol, _⟩ := id hl1
  rw [List.drop_zero]
  have e1 : (items.toList.take i).length = i := by rw [List.length_take, Array.length_toList]; omega
  rw [if_neg (show ¬ ((items.toList.take i).length < i) by rw [e1]; omega)]
  refine wpAny_bind (wpAny_holding (PySem.W.kun_collect (s := { s with heap := h₁ }) (T := "tuple_iterator") (.inr (.inr (.inr rfl))) (Walks.tuple (A := A.in1) hh s.heap.objs.size l ne items) (fun j u st => st.1.typeIs) (k := i) (by omega) ⟨it₁, hl1⟩ (Heap.lt_size hoi) (Heap.lt_size hol) (fun h₂ tk hk => ?_) (by rw [sizeLine_eq]; omega)))
  have e2 : (items.toList.drop i).length = items.size - i := by rw [List.length_drop, Array.length_toList]
  have e3 : (items.toList.drop i).length - (n - 1 - i) = items.size + 1 - n := by rw [e2]; omega
  show wpAny _ _ (if (items.toList.drop i).length < n - 1 - i then _ else _) _ _ _
  rw [if_neg (by rw [e2]; omega)]
  show wpAny _ _ (newList ((items.toList.drop i).take ((items.toList.drop i).length - (n - 1 - i))) >>= fun d => pure (items.toList.take i ++ [d] ++ (items.toList.drop i).drop ((items.toList.drop i).length - (n - 1 - i)))) _ _ _
  rw [e3]
  have kp : ∀ b o, s.heap.get? b = some o → h₂.get? b = some o := fun b o e => by
    have nb : b ≠ s.heap.objs.size := Nat.ne_of_lt (Heap.lt_size e)
    exact hk b o nb (sb.extBut b o nb (Heap.get?_push_of_some _ e))
  have fr : s.heap.get? h₂.objs.size = none := by
    cases e : s.heap.get? h₂.objs.size with
    | none => rfl
    | some o => exact absurd (Heap.lt_size (kp _ o e)) (Nat.lt_irrefl _)
  exact wpAny_bind (wpAny_newList (wpAny_pure (h _ _ tk (fun b o e => Heap.get?_push_of_some _ (kp b o e)) fr (Heap.get?_push_size _ rfl))) (by rw [List.length_take, e2, sizeLine_eq]; omega))
end
theorem objSome {P : Program} {w : World} {H : Hp} {h : Heap} {a : Addr} {o : HO} (x : ObjOk P w H h a o) : ∃ u, h.get? a = some u := by
  cases o with
  | lst xs => obtain ⟨_, _, _, _, e⟩ := x; exact ⟨_, e⟩
  | tup xs => obtain ⟨_, _, _, u, e, _⟩ := x; exact ⟨_, e⟩
  | dK kvs => obtain ⟨_, _, _, _, o, _, _, e, _⟩ := x; exact ⟨_, e⟩
  | dT kvs => obtain ⟨_, _, _, _, o, _, _, e, _⟩ := x; exact ⟨_, e⟩
  | set S n => obtain ⟨o, _, _, _, e, _⟩ := x; exact ⟨_, e⟩
  | ins C dx fs => obtain ⟨_, _, _, e, _⟩ := x; exact ⟨_, e⟩
  | own y => exact x
  | xd fs => obtain ⟨_, ⟨_, _, _, e, _⟩, _⟩ := x; exact ⟨_, e⟩
  | rng lo hi => obtain ⟨_, _, _, e⟩ := x; exact ⟨_, e⟩
  | frz ob u => exact ⟨_, x.1⟩
  | tbl ps => exact ⟨_, show h.get? a = some _ from x⟩
  | met f y => exact ⟨_, show h.get? a = some _ from x⟩
  | ext φ => exact x.2.1
section
variable {X : Cx} {pins : List (Addr × Obj)} {σ : L2.St} {H : Hp} {s : Shared}
/-- a new object at an address where nothing stood -/
theorem invLaid {a : Addr} {o : HO} {t' : Nat} {h' : Heap} (I : Inv X pins σ H s) (k : ∀ b u, s.heap.get? b = some u → h'.get? b = some u) (hp : s.heap.get? a = none) (new : ObjOk X.prog X.w (upd H a o) h' a o) :
    H a = none ∧ Inv X pins σ (upd H a o) { s with heap := h', toks := t' } := by
  have hn : H a = none := by
    cases e : H a with
    | none => rfl
    | some u =>
      obtain ⟨q, hq⟩ := objSome (I.hok a u e)
      rw [hp] at hq; cases hq
  have nb : ∀ {b : Addr} {u : Obj}, s.heap.get? b = some u → b ≠ a := fun {b u} e z => by subst z; rw [hp] at e; cases e
  have U : Un X.fs [] H (upd H a o) s.heap h' :=
    ⟨fun b u q _ _ _ => k b u q, fun b u q _ _ _ => ⟨u.slots, k b u q⟩, fun b u q n _ => (by rw [upd_ne (nb q)]; exact n), fun b u q _ => ⟨u, k b u q⟩, fun b xs q => (by rw [upd_ne (ne_of_none q hn)]; exact q), fun b u xs q => (by rw [upd_ne (ne_of_none q hn)]; exact q),
      fun b ps q => ⟨#[], (by rw [upd_ne (ne_of_none q hn), q]; simp)⟩⟩
  refine ⟨hn, I.un U fun b u e => ?_⟩
  by_cases hb : b = a
  · subst hb; rw [upd_same] at e; cases e; exact new
  · rw [upd_ne hb] at e
    exact (I.hok b u e).stay (fun c v _ q => k c v q) (fun c q => by rw [upd_ne (ne_of_none q hn)]; exact q) fun c xs q => by rw [upd_ne (ne_of_none q hn)]; exact q
end
def gStar (K : PySem.W.Frag) (n i : Nat) (t : TGs) : TG := fun v σ H Q => ∃ a xs, v = .ref a ∧ (SqL K H a xs ∨ SqT K H a xs) ∧ n ≤ xs.length + 1 ∧ xs.length ≤ 16384 ∧
  ∀ D, H D = none → t (xs.take i ++ [.ref D] ++ (xs.drop i).drop (xs.length + 1 - n)) σ (upd H D (.lst ((xs.drop i).take (xs.length + 1 - n)))) Q
section
variable {X : Cx} {pos : Pos}
theorem pg_star {es : List Expr} {k : Nat} {t : TGs} {n i : Nat} (hc : X.calm = true) (h : PGs X es t) (hi : i < n)
    (hn : (assignEach es X.env).length = n := by rfl) (hst : (assignEach es X.env).findIdx? (·.1) = some i := by rfl) : PG X (.Tuple es k pos) (gStar X.K n i t) := by
  refine ⟨?_⟩
  rintro pins s σ H v u Q I r ⟨a, xs, e1, hq, hl, hz, hw⟩
  subst e1
  cases r
  rw [PyProof.Rows.assign_Tuple]
  refine wpAny_bind (wpAny_standAt ?_)
  unfold unpack
  rw [hn, hst]
  have go : ∀ (its : List Value), Vals xs its → xs.length = its.length → ∀ (D : Addr) (h' : Heap) (tk : Nat), (∀ b o, s.heap.get? b = some o → h'.get? b = some o) → s.heap.get? D = none → h'.get? D = some { cls := .type "list", data := .seq ((its.drop i).take (its.length + 1 - n)).toArray } →
      wpAny (model X.prog X.w) X.A (assignInOrder ((assignEach es X.env).map (·.2)) (its.take i ++ [.ref D] ++ (its.drop i).drop (its.length + 1 - n))) (fun _ s' => ∃ σ' H', Inv X pins σ' H' s' ∧ Q σ' H') X.xe { s with heap := h', toks := tk } := fun its rv el D h' tk kp fr hD => by
    rw [← el] at hD ⊢
    have rm : Vals ((xs.drop i).take (xs.length + 1 - n)) ((its.drop i).take (xs.length + 1 - n)) := (rv.drop i).take _
    have hzl : ((xs.drop i).take (xs.length + 1 - n)).length ≤ sizeLine := by rw [List.length_take, List.length_drop, sizeLine_eq]; omega
    obtain ⟨hHD, I1⟩ := invLaid (t' := tk) (o := .lst ((xs.drop i).take (xs.length + 1 - n))) I kp fr ⟨hzl, _, 0, rm, hD⟩
    exact h.run pins _ σ _ _ _ Q I1 (((rv.take i).append (show Vals [V.ref D] [Value.ref D] from .cons rfl .nil)).append ((rv.drop i).drop _)) (hw D hHD)
  rcases hq with hq | hq
  · obtain ⟨its, rv, pl, hz2⟩ := I.list hq
    have hl' : s.heap.IsList a its.toArray := by
      obtain ⟨o, m, e, c, d, q⟩ := pl
      exact ⟨o, e, c, m, q⟩
    have el : xs.length = its.length := rv.length
    refine wpAny_bind (wpAny_holding (starL (items := its.toArray) hl' (I.ok.hd hc) hi (by rw [List.size_toArray, ← el]; exact hl) (by rw [List.size_toArray, ← el]; exact hz) fun D h' tk kp fr hD => ?_))
    exact go its rv el D h' tk kp fr (by simpa using hD)
  · obtain ⟨its, rv, ht, hz2⟩ := I.tuple hq
    have el : xs.length = its.length := rv.length
    refine wpAny_bind (wpAny_holding (starT (items := its.toArray) ht (I.ok.hd hc) hi (by rw [List.size_toArray, ← el]; exact hl) (by rw [List.size_toArray, ← el]; exact hz) fun D h' tk kp fr hD => ?_))
    exact go its rv el D h' tk kp fr (by simpa using hD)
theorem pgs_consS {e : Expr} {p : Pos} {es : List Expr} {t : TG} {u : TGs} (h1 : PG X e t) (h2 : PGs X es u)
    (hs : (assignEach (.Starred e p :: es) X.env).map (·.2) = assign e X.env :: (assignEach es X.env).map (·.2) := by rfl) : PGs X (.Starred e p :: es) (gCons t u) := by
  refine ⟨fun pins s σ H vs us Q I r h => ?_⟩
  obtain ⟨v, vr, e1, h⟩ := h
  subst e1
  cases r with
  | cons r rr =>
    rw [hs]
    refine assignInOrder_cons (thn (h1.run pins s σ H _ _ _ I r h) ?_)
    rintro _ s1 ⟨σ1, H1, I1, q1⟩
    exact h2.run pins s1 σ1 H1 _ _ Q I1 rr q1
end
/-- the starred list is data -/
def qGStar (n i : Nat) (u : AGs) : AG := fun s ρ M N Z => ∃ xs ds, (itemsL M s = some xs ∨ itemsT s = some xs) ∧ n ≤ xs.length + 1 ∧ xs.length ≤ 16384 ∧ (xs.drop i).take (xs.length + 1 - n) = ds.map S.d ∧
  u (xs.take i ++ [.d (.list ds)] ++ (xs.drop i).drop (xs.length + 1 - n)) ρ M N Z
section
variable {X : Cx} {W : WX} {k : Nat} {e : Expr} {es : List Expr} {pos p : Pos} {G : AG} {Gs : AGs} {vs vs' : List Nat}
theorem qg_star {j n : Nat} (i : Nat) (hc : X.calm = true) (h : QGs X W es Gs vs) (hz : es.length = n := by rfl) (hi : i < es.length := by decide) (hn : (assignEach es X.env).length = es.length := by rfl) (hst : (assignEach es X.env).findIdx? (·.1) = some i := by rfl) :
    QG X W (.Tuple es j pos) (qGStar es.length i Gs) vs := by
  refine pg_imp (pg_star (n := es.length) hc h hi hn hst) ?_
  rintro v σ H Q ⟨F, M, s, ρ, N, Z, st, sl, r, ⟨xs, ds, hx, hl, hz2, hd, h⟩, cv⟩
  have go : ∀ (a : Addr) (us : List V), v = .ref a → (SqL X.K H a us ∨ SqT X.K H a us) → RepL X.K F us xs → gStar X.K es.length i (canGs X.K W Gs vs) v σ H Q := fun a us hv hq rl => by
    subst hv
    have el := rl.length
    refine ⟨a, us, rfl, hq, by rw [el]; exact hl, by rw [el]; exact hz2, ?_⟩
    rw [el]
    intro D hD
    obtain ⟨st2, e2⟩ := st.newF (o := .lst ((us.drop i).take (xs.length + 1 - es.length))) hD
    have rm : RepL X.K F ((us.drop i).take (xs.length + 1 - es.length)) (ds.map S.d) := by rw [← hd]; exact (rl.drop i).take _
    refine ⟨_, M, xs.take i ++ [.d (.list ds)] ++ (xs.drop i).drop (xs.length + 1 - es.length), ρ, N, Z, st2, sl.mono e2.ff, ?_, h, fun F' H' M' σ' ρ' e' st' sl' hw hN => cv F' H' M' σ' ρ' (e2.trans e') st' sl' hw hN⟩
    exact (((rl.mono e2.ff).take i).append (.cons (.d (.lst (.inl (.inl upd_same)) (dpAll_of (rm.mono e2.ff)))) .nil)).append (((rl.mono e2.ff).drop i).drop _)
  rcases hx with hx | hx
  · obtain ⟨a, us, hv, hq, rl⟩ := items_sq st r hx
    exact go a us hv (.inl hq) rl
  · obtain ⟨a, us, hv, hq, rl⟩ := items_st st r hx
    exact go a us hv (.inr hq) rl
theorem qgs_consS (h1 : QG X W e G vs) (h2 : QGs X W es Gs vs') (hs : (assignEach (.Starred e p :: es) X.env).map (·.2) = assign e X.env :: (assignEach es X.env).map (·.2) := by rfl) : QGs X W (.Starred e p :: es) (qGCons G Gs) (vs ++ vs') := pgs_imp (pgs_consS h1 h2 hs) (by
  rintro us σ H Q ⟨F, M, ss, ρ, N, Z, st, sl, r, h, cv⟩
  cases r with
  | nil => exact (show False from h).elim
  | @cons u us x ss r rs =>
    refine ⟨u, us, rfl, F, M, x, ρ, _, Z, st, sl, r, h, fun F1 H1 M1 σ1 ρ1 e1 st1 sl1 w1 h1 => ?_⟩
    refine ⟨F1, M1, ss, ρ1, N, Z, st1, sl1, rs.mono e1.ff, h1, fun F2 H2 M2 σ2 ρ2 e2 st2 sl2 w2 h2 => ?_⟩
    refine cv F2 H2 M2 σ2 ρ2 (e1.trans e2) st2 sl2 ?_ h2
    rw [wipe_app, wipe_app, w2, wipe_comm σ1, w1, wipe_comm σ])
end
section
variable {X : Cx} {W : WX} {k k' : Nat} {e a b : Expr} {es : List Expr} {pos p : Pos} {A B : AE} {As : AA}
end
structure GTup (K : PySem.W.Frag) (mg : Str → Option Value) (x : Str) (ys : List Str) : Prop where
  ex : ∃ (a : Addr) (o : Obj) (its : Array Value) (n : Nat), mg x = some (.ref a) ∧ K.lookup a = some o ∧ o.cls = .type "tuple" ∧ o.data = .seq its n ∧ its.size ≤ sizeLine ∧ Vals (ys.map V.str) its.toList
theorem qe_gT {X : Cx} {W : WX} {pos : Pos} {x : Str} {ys : List Str} (hg : Gl X x) (G : GTup X.K X.mg x ys) (hd : (x == ("__debug__" : Str)) = false := by decide) : QE X W (.Name x pos) (qC (.d (.tuple (strsD ys)))) := by
  obtain ⟨a, o, its, n, h1, h2, h3, h4, h5, h6⟩ := G.ex
  exact qe_glob hg h1 (show RelV (.ref a) (.ref a) from rfl) (fun F => .d (.tup (.inr ⟨o, its, n, h2, h3, h4, h5, h6⟩) (of_strs _))) hd
theorem star_end {u : AGs} {s : S} {ρ : Rl} {M : Mem} {N : Rl → Mem → Prop} {Z : X2} (pre : List S) (ds : List PyData) (h : itemsL M s = some (pre ++ ds.map S.d) ∨ itemsT s = some (pre ++ ds.map S.d)) (hz : pre.length + ds.length ≤ 16384) (q : u (pre ++ [.d (.list ds)]) ρ M N Z) :
    qGStar (pre.length + 1) pre.length u s ρ M N Z := by
  have el : (pre ++ ds.map S.d).length + 1 - (pre.length + 1) = ds.length := by rw [List.length_append, List.length_map]; omega
  refine ⟨_, ds, h, by rw [List.length_append]; omega, by rw [List.length_append, List.length_map]; exact hz, ?_, ?_⟩
  · rw [el, List.drop_left]
    exact List.take_of_length_le (by rw [List.length_map]; exact Nat.le_refl _)
  · rw [el, List.drop_left, List.take_left, List.drop_of_length_le (by rw [List.length_map]; exact Nat.le_refl _), List.append_nil]
    exact q
theorem star_init {u : AGs} {s : S} {ρ : Rl} {M : Mem} {N : Rl → Mem → Prop} {Z : X2} (ds : List PyData) (post : List S) (h : itemsL M s = some (ds.map S.d ++ post) ∨ itemsT s = some (ds.map S.d ++ post)) (hz : ds.length + post.length ≤ 16384) (q : u (.d (.list ds) :: post) ρ M N Z) :
    qGStar (post.length + 1) 0 u s ρ M N Z := by
  have el : (ds.map S.d ++ post).length + 1 - (post.length + 1) = (ds.map S.d).length := by rw [List.length_append]; omega
  refine ⟨_, ds, h, by rw [List.length_append]; omega, by rw [List.length_append, List.length_map]; exact hz, ?_, ?_⟩
  · rw [el, List.drop_zero, List.take_left]
  · rw [el, List.drop_zero, List.drop_left, List.take_zero]
    exact q
end Lv
set_option Elab.async false
set_option linter.all false
set_option maxRecDepth 100000
set_option maxHeartbeats 2000000
namespace Lv
open PySem PySem.Spec PyProof.Rows L2
section
variable {X : Cx} {W : WX} {k k' : Nat} {e a b c : Expr} {es : List Expr} {pos p p2 : Pos} {A B : AE} {As : AA} {x : Str} {l : List (Str × Addr)}
end
end Lv
set_option Elab.async false
set_option linter.all false
set_option maxRecDepth 100000
set_option maxHeartbeats 2000000
namespace Lv
open PySem PySem.Spec PyProof.Rows L2
/-- the promise at the caller, from a heap where nothing but the script is told -/
theorem callG0 {P : Program} {w : World} {K : PySem.W.Frag} {mg mb : Str → Option Value} {Cx0 : CXT} {k : Nat} {fa a : Addr} {fd : FuncData} {x : Str} {sp : Sp} {t : Shared} {us : List Value} {ns : List Int} {Hs : Hp}
    (kin : K.In t.heap) (gns : t.heap.Ns mainGlobals mg) (bns : t.heap.Ns builtinsNs mb) (beq : ∀ y : Str, y ≠ "__name__" → mb y = bootBuiltins y) (nlim : t.heap.NoLimit) (gens : t.gens = #[]) (hObj : t.heap.get? a = some { cls := .type "list", data := .seq us.toArray }) (rm : Room k callerA)
    (Fo : ∀ base : Heap, K.In base → base.Ns mainGlobals mg → FnOkG P w K mg base Cx0 k fa fd [x] sp) (bnd : ∀ (u : Shared) (v : Value), BindsTo u fd ⟨[v], []⟩ [(x, v)]) (hx : ∀ e t2, Cx0 [] Hs t (fun _ _ _ => False) e t2 → False)
    (only : Only Hs) (told : HOk P w Hs t.heap) (alone : ∀ b, Hs b ≠ none → b = a) (notK : Hs a ≠ none → K.lookup a = none) (hsp : sp [.ref a] Hs (fun v _ => v = .bl true) fun _ _ _ => False) :
    codeAny (model P w) callerA (.call (.ref fa) ⟨[.ref a], []⟩) (fun r t2 => r = .ok (.ret (.bool true)) ∧ OldK t.heap t2.heap ∧ t2.os = t.os ∧ AllBare t2.gens) t := by
  have hid : ∀ {b : Addr} {o : Obj}, t.heap.get? b = some o → Hs b = none → (hidT t.heap Hs).get? b = some o := fun q n => hidT_get q n
  have dictFree : ∀ {b : Addr} {o : Obj} {es : Array DictEntry} {ep : Nat}, t.heap.get? b = some o → o.data = .dict es ep → Hs b = none := by
    intro b o es ep q d
    cases z : Hs b with
    | none => rfl
    | some u =>
      have eb : b = a := alone b (by rw [z]; simp)
      subst eb
      rw [hObj] at q
      cases q
      exact nomatch (show Data.seq us.toArray _ = Data.dict es ep from d)
  have nsH : ∀ {b : Addr} {m : Str → Option Value}, t.heap.Ns b m → (hidT t.heap Hs).Ns b m := fun {b m} ⟨o, es, ep, q, d, r⟩ => ⟨o, es, ep, hid q (dictFree q d), d, r⟩
  have kinH : K.In (hidT t.heap Hs) := by
    intro b o q
    refine hid (kin b o q) ?_
    cases z : Hs b with
    | none => rfl
    | some u =>
      have eb : b = a := alone b (by rw [z]; simp)
      subst eb
      rw [notK (by rw [z]; simp)] at q
      cases q
  have md : Mod K mg (hidT t.heap Hs) := ⟨kinH, nsH gns, ⟨mb, nsH bns, beq⟩, let ⟨mc, q1, q2⟩ := nlim; ⟨mc, nsH q1, q2⟩⟩
  have en : Env0 P w K mg (hidT t.heap Hs) callerA [] t Hs := ⟨rfl, md, fun b o q => of_hidT q, Nat.le_of_eq (hidT_size _ _), trivial, fun b hb => absurd (show b ∈ ([] : List Addr) from hb) (by simp), told, .of_eq gens⟩
  refine codeAny_mono ((Fo _ kinH (nsH gns)).run callerA [] t Hs ⟨[.ref a], []⟩ [.ref a] [.ref a] _ _ rfl rm en (bnd t (.ref a)) (.cons rfl .nil) hsp) fun r t2 hr => ?_
  match r, hr with
  | .error e, hr => exact (hx e t2 hr).elim
  | .ok .next, hr => exact False.elim hr
  | .ok .brk, hr => exact False.elim hr
  | .ok .cont, hr => exact False.elim hr
  | .ok (.ret u), ⟨v, H2, os, bare, un, told2, rv, q⟩ =>
    have q : v = .bl true := q
    subst q
    obtain rfl : u = Value.bool true := rv
    refine ⟨rfl, OldK.of_keep fun b o eo => ?_, os, bare⟩
    cases z : Hs b with
    | none => exact un.keep b o eo z (by intro y; exact absurd (show b ∈ ([] : List Addr) from y) (by simp)) (by simp)
    | some y =>
      rcases only b with q | ⟨ob, xs, q⟩
      · rw [z] at q; cases q
      · obtain ⟨c1, _⟩ := told b _ q
        obtain ⟨c2, _⟩ := told2 b _ (un.frzs b ob _ q)
        rw [eo] at c1
        cases c1
        exact c2
theorem callG {P : Program} {w : World} {K : PySem.W.Frag} {mg mb : Str → Option Value} {Cx0 : CXT} {k : Nat} {fa a : Addr} {fd : FuncData} {x : Str} {sp : Sp} {t : Shared} {us : List Value} {ns : List Int}
    (kin : K.In t.heap) (gns : t.heap.Ns mainGlobals mg) (bns : t.heap.Ns builtinsNs mb) (beq : ∀ y : Str, y ≠ "__name__" → mb y = bootBuiltins y) (nlim : t.heap.NoLimit) (gens : t.gens = #[]) (hObj : t.heap.get? a = some { cls := .type "list", data := .seq us.toArray }) (inz : IntsAre us ns) (hlen : ns.length ≤ sizeLine)
    (rm : Room k callerA) (Fo : ∀ base : Heap, K.In base → base.Ns mainGlobals mg → FnOkG P w K mg base Cx0 k fa fd [x] sp) (bnd : ∀ (u : Shared) (v : Value), BindsTo u fd ⟨[v], []⟩ [(x, v)]) (hx : ∀ Hs e t2, Cx0 [] Hs t (fun _ _ _ => False) e t2 → False)
    (hsp : ∀ Hs : Hp, Only Hs → SqL K Hs a (ns.map V.int) → sp [.ref a] Hs (fun v _ => v = .bl true) fun _ _ _ => False) :
    codeAny (model P w) callerA (.call (.ref fa) ⟨[.ref a], []⟩) (fun r t2 => r = .ok (.ret (.bool true)) ∧ OldK t.heap t2.heap ∧ t2.os = t.os ∧ AllBare t2.gens) t := by
  have rv := vals_ints inz
  have el := inz.length
  cases hk : K.lookup a with
  | some o =>
    have q := kin a o hk
    rw [hObj] at q
    cases q
    refine callG0 (ns := ns) (Hs := fun _ => none) kin gns bns beq nlim gens hObj rm Fo bnd (fun e t2 => hx _ e t2) (fun _ => .inl rfl) (fun b u z => by have z : (none : Option HO) = some u := z; cases z) (fun b z => absurd rfl z) (fun z => absurd rfl z) (hsp _ (fun _ => .inl rfl) ?_)
    exact .inr ⟨_, us.toArray, _, hk, rfl, rfl, rfl, by rw [List.size_toArray, el]; exact hlen, by simpa using rv⟩
  | none =>
    let Hs : Hp := fun b => if b = a then some (.frz { cls := .type "list", data := .seq us.toArray } (.lst (ns.map V.int))) else none
    have at_ : Hs a = some (.frz { cls := .type "list", data := .seq us.toArray } (.lst (ns.map V.int))) := if_pos rfl
    have off : ∀ b, b ≠ a → Hs b = none := fun b hb => if_neg hb
    have on : Only Hs := fun b => by
      by_cases hb : b = a
      · subst hb; exact .inr ⟨_, _, at_⟩
      · exact .inl (off b hb)
    refine callG0 (ns := ns) (Hs := Hs) kin gns bns beq nlim gens hObj rm Fo bnd (fun e t2 => hx _ e t2) on (fun b u z => ?_) (fun b z => ?_) (fun _ => hk) (hsp Hs on (.inl (.inr ⟨_, at_⟩)))
    · by_cases hb : b = a
      · subst hb
        rw [at_] at z
        cases z
        exact ⟨hObj, by rw [List.length_map]; exact hlen, us, _, rv, hObj⟩
      · rw [off b hb] at z; cases z
    · by_cases hb : b = a
      · exact hb
      · exact absurd (off b hb) z
theorem walkG {l : PySem.W.OpenLaw} {n k : Nat} {q : Program} {loose : List Str} {XP : (Str → Option Value) → Heap → Prop} {YP : World → Heap → Prop} {d : DefRec} {K : Params → PySem.W.Frag} {Cx0 : World → CXT} {sp : World → Sp} {x : Str}
    (most : l.most = some n) (n2 : n ≤ sizeLine) (dfl : d.params.defaults = []) (rm : Room k callerA) (inK : ∀ (w : World) (h : Heap), YP w h → (K w.params).In h)
    (Fo : ∀ (w : World) (mg : Str → Option Value) (fa : Addr) (h : Heap), (K w.params).In h → h.Ns mainGlobals mg → mg d.name = some (.ref fa) →
      ∃ fd : FuncData, (∀ (t : Shared) (v : Value), BindsTo t fd ⟨[v], []⟩ [(x, v)]) ∧ ∀ base : Heap, (K w.params).In base → base.Ns mainGlobals mg → FnOkG l.prog w (K w.params) mg base (Cx0 w) k fa fd [x] (sp w))
    (hsp : ∀ (w : World) (Hs : Hp) (a : Addr) (ns : List Int), ns.length ≤ n → Only Hs → SqL (K w.params) Hs a (ns.map V.int) → sp w [.ref a] Hs (fun v _ => v = .bl true) fun _ _ _ => False)
    (hx : ∀ (w : World) (Hs : Hp) (t : Shared) (e : Value) (t2 : Shared), Cx0 w [] Hs t (fun _ _ _ => False) e t2 → False) : PySem.W.WalkO q loose XP YP l.row.toRowW d [] (fun f vs => PySem.call f vs) := by
  refine Att.attach_call most dfl fun w s0 t mg mb fa o pm cd doc a us ns G Y ho hd hcd hmg hobj hints hlen hg => ?_
  have KX := inK w _ Y
  obtain ⟨fd, hb, hF⟩ := Fo w mg fa _ KX G.T.g hmg
  exact callG KX G.T.g G.T.b G.T.builtins G.T.nolimit hg hobj hints (Nat.le_trans hlen n2) rm hF hb (fun Hs e t2 => hx w Hs t e t2) fun Hs hO hS => hsp w Hs a ns hlen hO hS
section
variable {X : Cx} {W : WX} {k k' : Nat} {a : Expr} {pos p : Pos} {As : AA}
end
end Lv
set_option Elab.async false
set_option linter.all false
set_option maxRecDepth 100000
set_option maxHeartbeats 2000000
namespace Lv
open PySem PySem.Spec PyProof.Rows L2
section
variable {items : List S} {ok : Mem → Prop} {G : AG} {A : AE} {T : AT} {own : List Nat} {ρ : Rl} {M : Mem} {P : K2}
/-- the step's store stays, the items' own values are known -/
theorem lc_mapM {α : Type} (l : List α) (f g : α → S) (hi : items = l.map f) (hz : l.length < sizeLine) (hok : ok M)
    (hs : ∀ a, a ∈ l → ∀ Q : K2, Q (g a) M → G (f a) (wipe2 ρ own) M (fun ρ2 M2 => A ρ2 M2 Q noX) noX) (hP : ∀ p, M p = none → P (.a p) (mput M p (.lst (l.map g)))) :
    items.length < sizeLine ∧ ∃ Iv : Nat → List S → Mem → Prop, Iv 0 [] M ∧ (∀ i acc M, Iv i acc M → ok M) ∧
      (∀ i x acc M, items[i]? = some x → Iv i acc M → G x (wipe2 ρ own) M (fun ρ2 M2 => qYes ρ2 M2 (fun b M3 => BIf b (A ρ2 M3 (fun s M4 => Iv (i + 1) (acc ++ [s]) M4) noX) (Iv (i + 1) acc M3)) noX) noX) ∧
      ∀ acc M, Iv items.length acc M → enM acc M P := by
  subst hi
  refine ⟨by rw [List.length_map]; exact hz, fun i acc M' => M' = M ∧ acc = (l.take i).map g, ⟨rfl, by simp⟩, fun i acc M' h => by rw [h.1]; exact hok, fun i x acc M' hi h => ?_, fun acc M' h => ?_⟩
  · obtain ⟨rfl, rfl⟩ := h
    rw [List.getElem?_map] at hi
    cases e : l[i]? with
    | none => rw [e] at hi; cases hi
    | some a =>
      rw [e] at hi
      cases hi
      refine hs a (List.mem_of_getElem? e) _ ⟨rfl, ?_⟩
      rw [List.take_succ, e, List.map_append]
      rfl
  · obtain ⟨rfl, rfl⟩ := h
    rw [List.take_of_length_le (by rw [List.length_map]; omega)]
    exact hP
end
end Lv
set_option Elab.async false
set_option linter.all false
set_option maxRecDepth 100000
set_option maxHeartbeats 2000000
namespace Lv
open PySem PySem.Spec PyProof.Rows L2
section
variable {X : Cx} {W : WX} {o e : Expr} {apos pos : Pos} {A B : AE} {s : S}
def qM0 (R : S → Mem → K2 → Prop) (A : AE) : AE := fun ρ M P Z => A ρ M (fun s M1 => (∃ z, s = .s z) ∧ R s M1 P) Z
def oStrip (g : Str → Str) : S → Mem → K2 → Prop := fun s M P => match s with
  | .d (.str a) => a.length ≤ sizeLine ∧ P (.s (g a)) M
  | _ => False
theorem qe_m0 {r : V → List V → Hp → VK → Prop} {R : S → Mem → K2 → Prop} {e : Expr}
    (hs2 : ∀ {F H M x s P Q}, Stt X.K F H M → Rep X.K F x s → R s M P → (∀ F' H' M' v u, Ext F H M F' H' M' → Stt X.K F' H' M' → Rep X.K F' v u → P u M' → Q v H') → r x [] H Q) (hp : PE X e (tM0 r (canE X.K W A))) : QE X W e (qM0 R A) :=
  pe_imp hp (by
  rintro σ H Q ⟨F, M, ρ, P, Z, st, sl, h, cv⟩
  refine ⟨F, M, ρ, _, Z, st, sl, h, ⟨?_, cv.z⟩⟩
  rintro F1 H1 M1 x s e1 st1 r1 ⟨hl, h1⟩
  obtain ⟨z, rfl⟩ := hl
  refine ⟨⟨z, rep_str r1⟩, ?_⟩
  exact hs2 st1 r1 h1 fun F' H' M' v u e3 => cv.q F' H' M' v u (e1.trans e3))
theorem qe_strip (ho : QE X W o A) (hbase : attributeBase o "strip" X.env (eval o X.env) = eval o X.env := by rfl) (hline : (apos.endLine == pos.line) = true := by rfl) :
    QE X W (.Call (.Attribute o "strip" apos) [] [] pos) (qM0 (oStrip Txt.strip) A) := qe_m0 (fun {F H M x s P Q} st rx h q => by
  unfold oStrip at h
  split at h
  · obtain ⟨h1, h3⟩ := h
    rw [rep_str rx]
    exact ⟨_, rfl, rfl, h1, q _ _ _ _ _ Ext.refl st (.d (.str _)) h3⟩
  · exact h.elim) (pe_strip ho hbase hline)
theorem qe_rstrip (ho : QE X W o A) (hbase : attributeBase o "rstrip" X.env (eval o X.env) = eval o X.env := by rfl) (hline : (apos.endLine == pos.line) = true := by rfl) :
    QE X W (.Call (.Attribute o "rstrip" apos) [] [] pos) (qM0 (oStrip Txt.rstrip) A) := qe_m0 (fun {F H M x s P Q} st rx h q => by
  unfold oStrip at h
  split at h
  · obtain ⟨h1, h3⟩ := h
    rw [rep_str rx]
    exact ⟨_, rfl, rfl, h1, q _ _ _ _ _ Ext.refl st (.d (.str _)) h3⟩
  · exact h.elim) (pe_m0 PySem.F.slot_str_rstrip PySem.F.type_str_rstrip mt_rstrip ho hbase hline)
/-- s.split(t): a list of the store -/
def oSplitM : O2 := fun s t M P => match s, t with
  | .d (.str a), .d (.str b) => (b.length == 0) = false ∧ a.length + 2 ≤ sizeLine ∧ ∀ p, M p = none → P (.a p) (mput M p (.lst ((strsD (Txt.split a b)).map S.d)))
  | _, _ => False
theorem repl_strs {K : PySem.W.Frag} {F : Hp} : ∀ ys : List Str, RepL K F (ys.map V.str) ((strsD ys).map S.d)
  | [] => .nil
  | y :: r => .cons (.d (.str _)) (repl_strs r)
theorem sSplitM {K : PySem.W.Frag} : OpS K (fun x y H Q => ∃ a b, x = .str a ∧ [y] = [.str b] ∧ (b.length == 0) = false ∧ a.length + 2 ≤ sizeLine ∧ rNewStrs (Txt.split a b) H Q) oSplitM := by
  intro F H M x y s t P Q st rx ry h q
  unfold oSplitM at h
  split at h
  · obtain ⟨h1, h2, h3⟩ := h
    rw [rep_str rx, rep_str ry]
    exact ⟨_, _, rfl, rfl, h1, h2, fun p hp => newLM st (repl_strs _) hp h3 q⟩
  · exact h.elim
theorem qe_splitM (ho : QE X W o A) (he : QE X W e B) (hs : starEach [e] X.env = [(false, eval e X.env)] := by rfl) (hbase : attributeBase o "split" X.env (eval o X.env) = eval o X.env := by rfl) (hline : (apos.endLine == pos.line) = true := by rfl) :
    QE X W (.Call (.Attribute o "split" apos) [e] [] pos) (qM1 oSplitM A B) := qe_m1 (to := fun _ _ _ => True) (te := fun _ _ _ => True) sSplitM (pe_split ho he hs hbase hline)
end
end Lv
set_option Elab.async false
set_option linter.all false
set_option maxRecDepth 100000
set_option maxHeartbeats 2000000
namespace Lv
open PySem PySem.Spec PyProof.Rows L2
abbrev NKy := Option Key
def lfφ (P : Program) (w : World) (ep : Nat) (kvs : List (NKy × V)) (a : Addr) (h : Heap) : Prop :=
  kvs.length ≤ sizeLine ∧ (a == sysModules) = false ∧ ∃ us, KV kvs us ∧ h.DictAt (noneKind P w) a us ep
section
variable {X : Cx} {pins : List (Addr × Obj)} {σ : L2.St} {H : Hp} {s : Shared} {a : Addr} {kvs : List (NKy × V)} {k : NKy} {v y : V} {u r : Value} {A : Around} {E : Value → Shared → Prop} {ep : Nat}
end
def dL (P : Program) (w : World) (ep : Nat) (kvs : List (NKy × S)) : MO := .own (fun p vs => lfφ P w ep ((kvs.map (·.1)).zip vs) p) (kvs.map (·.2))
section
variable {P : Program} {w : World} {K : PySem.W.Frag} {F H : Hp} {M : Mem} {p : Addr} {ep : Nat} {kvs : List (NKy × S)} {kv : List (NKy × V)}
end
def dropS {κ : Type} [DecidableEq κ] (kvs : List (κ × S)) (k : κ) : List (κ × S) := kvs.filter fun kv => decide (kv.1 ≠ k)
section
variable {X : Cx} {o i e f value : Expr} {pos pos' apos cpos tpos : Pos} {td ty tv tx : TE}
end
end Lv
set_option Elab.async false
set_option linter.all false
set_option maxRecDepth 100000
set_option maxHeartbeats 2000000
namespace Lv
open PySem PySem.Spec PyProof.Rows L2
section
variable {X : Cx} {W : WX} {k k' : Nat} {tg e a b c o f value : Expr} {es : List Expr} {pos pos' apos cpos tpos p p2 : Pos} {A B C V : AE} {As : AA} {s : S}
end
end Lv
set_option Elab.async false
set_option linter.all false
set_option maxRecDepth 100000
set_option maxHeartbeats 2000000
namespace Lv
open PySem PySem.Spec PyProof.Rows L2
section
variable {X : Cx} {pins : List (Addr × Obj)} {σ : L2.St} {H : Hp} {s : Shared} {d : Addr} {kvs kvs' : List (NKy × V)} {ep : Nat}
end
section
variable {P : Program} {w : World} {K : PySem.W.Frag} {tg : Expr} {d : Addr} {ep n : Nat}
end
section
variable {X : Cx} {tg e : Expr} {td : TE} {apos cpos : Pos}
end
end Lv
set_option Elab.async false
set_option linter.all false
set_option maxRecDepth 100000
set_option maxHeartbeats 2000000
namespace Lv
open PySem PySem.Spec PyProof.Rows L2 L2.DX
theorem RepF.at {K : PySem.W.Frag} {F : Hp} {κ : Type} : ∀ {l : List (κ × V)} {m : List (κ × S)} {i : Nat} {q : κ × S}, RepF K F l m → m[i]? = some q → ∃ v, l[i]? = some (q.1, v) ∧ Rep K F v q.2
  | _, _, _, _, .nil, e => by simp at e
  | _, _, 0, q, .cons (a := a) r t, e => by
    simp at e; subst e
    exact ⟨a.2, by rw [← r.1]; rfl, r.2⟩
  | _, _, i + 1, q, .cons r t, e => by
    obtain ⟨v, h1, h2⟩ := RepF.at (i := i) (q := q) t (by simpa using e)
    exact ⟨v, by simpa using h1, h2⟩
section
variable {P : Program} {w : World} {K : PySem.W.Frag} {F : Hp} {d : Addr} {ep : Nat} {kvs : List (NKy × S)}
end
section
variable {X : Cx} {W : WX} {tg e : Expr} {A : AE} {apos cpos : Pos}
end
section
variable {X : Cx} {e : Expr} {td : TE} {apos cpos : Pos}
end
section
variable {X : Cx} {W : WX} {k : Nat} {a e : Expr} {A : AE} {As : AA} {apos cpos p pos : Pos}
end
end Lv
set_option Elab.async false
set_option linter.all false
set_option maxRecDepth 100000
set_option maxHeartbeats 2000000
namespace Lv
open PySem PySem.Spec PyProof.Rows L2 L2.DX
abbrev TKy := List NestedKey
abbrev VTr := TKy × Addr × V
def KAt (K : PySem.W.Frag) (H : Hp) (k : TKy) (b : Addr) : Prop := Dp K H (.ref b) (.tuple (NestedKey.datas k))
abbrev KDp (k : TKy) : Prop := (NestedKey.tup k).depth ≤ 8
section
variable {X : Cx} {pins : List (Addr × Obj)} {σ : L2.St} {H : Hp} {s : Shared}
end
def valN (kvs : List VTr) (k : TKy) : Option V := (kvs.find? fun x => decide (x.1 = k)).map (·.2.2)
def putAN (k : TKy) (v : V) (x : VTr) : VTr := if x.1 = k then (x.1, x.2.1, v) else x
def storN (kvs : List VTr) (k : TKy) (b : Addr) (v : V) : List VTr := if (valN kvs k).isSome then kvs.map (putAN k v) else kvs ++ [(k, b, v)]
def dropN (kvs : List VTr) (k : TKy) : List VTr := kvs.filter fun x => decide (x.1 ≠ k)
abbrev KN : List VTr → List (NestedKey × Addr × Value) → Prop := Paired fun p q => q.1 = .tup p.1 ∧ p.2.1 = q.2.1 ∧ L2.RelV p.2.2 q.2.2
theorem tup_eq {a b : TKy} : NestedKey.tup a = NestedKey.tup b ↔ a = b := ⟨fun h => by injection h, fun h => by rw [h]⟩
theorem KN.val {kvs : List VTr} {xs : List (NestedKey × Addr × Value)} (r : KN kvs xs) (k : TKy) : RelO (valN kvs k) ((atKey xs (.tup k)).map (·.2)) := by
  induction r with
  | nil => exact True.intro
  | @cons p q ps qs h t ih =>
    obtain ⟨h1, _, h2⟩ := h
    by_cases e : p.1 = k
    · have e' : q.1 = .tup k := by rw [h1, e]
      have b : atKey (q :: qs) (.tup k) = some q.2 := by simp [atKey, List.find?_cons, e']
      have a : valN (p :: ps) k = some p.2.2 := by simp [valN, List.find?_cons, e]
      rw [a, b]; exact h2
    · have e' : ¬ q.1 = .tup k := fun z => e (tup_eq.mp (h1.symm.trans z))
      have b : atKey (q :: qs) (.tup k) = atKey qs (.tup k) := by simp [atKey, List.find?_cons, e']
      have a : valN (p :: ps) k = valN ps k := by simp [valN, List.find?_cons, e]
      rw [a, b]; exact ih
theorem KN.repl {kvs : List VTr} {xs : List (NestedKey × Addr × Value)} (r : KN kvs xs) (k : TKy) {y : V} {u : Value} (ry : L2.RelV y u) : KN (kvs.map (putAN k y)) (xs.map (putAt (.tup k) u)) := by
  induction r with
  | nil => exact .nil
  | @cons p q ps qs h t ih =>
    rw [List.map_cons, List.map_cons]
    refine .cons ?_ ih
    obtain ⟨h1, h2, h3⟩ := h
    unfold putAt putAN
    by_cases e : p.1 = k
    · rw [if_pos e, if_pos (by rw [h1, e])]; exact ⟨h1, h2, ry⟩
    · rw [if_neg e, if_neg (fun z => e (tup_eq.mp (h1.symm.trans z)))]; exact ⟨h1, h2, h3⟩
theorem KN.put {kvs : List VTr} {xs : List (NestedKey × Addr × Value)} (r : KN kvs xs) (k : TKy) {b : Addr} {y : V} {u : Value} (ry : L2.RelV y u) : KN (storN kvs k b y) (storedH xs (.tup k) b u) := by
  have e : (valN kvs k).isSome = (atKey xs (.tup k)).isSome := by rw [(r.val k).isSome_eq, Option.isSome_map]
  unfold storN storedH
  rw [e]
  by_cases q : (atKey xs (.tup k)).isSome = true
  · rw [if_pos q, if_pos q]; exact r.repl k ry
  · rw [if_neg q, if_neg q]; exact Paired.snoc r ⟨rfl, rfl, ry⟩
theorem KN.drop (k : TKy) : ∀ {kvs : List VTr} {xs : List (NestedKey × Addr × Value)}, KN kvs xs → KN (dropN kvs k) (withoutH xs (.tup k))
  | _, _, .nil => .nil
  | _, _, .cons (a := p) (b := q) (l₁ := kvs) (l₂ := xs) h t => by
    have ih := KN.drop k t
    by_cases e : p.1 = k
    · have e2 : q.1 = .tup k := by rw [h.1, e]
      have z1 : dropN (p :: kvs) k = dropN kvs k := List.filter_cons_of_neg (by simp [e])
      have z2 : withoutH (q :: xs) (.tup k) = withoutH xs (.tup k) := List.filter_cons_of_neg (by simp [e2])
      rw [z1, z2]
      exact ih
    · have e2 : ¬ q.1 = .tup k := fun z => e (tup_eq.mp (h.1.symm.trans z))
      have z1 : dropN (p :: kvs) k = p :: dropN kvs k := List.filter_cons_of_pos (by simp [e])
      have z2 : withoutH (q :: xs) (.tup k) = q :: withoutH xs (.tup k) := List.filter_cons_of_pos (by simp [e2])
      rw [z1, z2]
      exact Paired.cons h ih
def nsφ (P : Program) (w : World) (ep : Nat) (kvs : List VTr) (a : Addr) (h : Heap) : Prop :=
  kvs.length ≤ sizeLine ∧ (a == sysModules) = false ∧ (∀ x ∈ kvs, KDp x.1) ∧ ∃ xs, KN kvs xs ∧ ∃ o es, h.get? a = some o ∧ o.ExactDict ∧ o.data = .dict es ep ∧ es.toList = xs.map (entryOfKey (nestedKind P w)) ∧ (xs.map (·.1)).Nodup
def KeysAt (K : PySem.W.Frag) (H : Hp) (kvs : List VTr) : Prop := ∀ x ∈ kvs, KAt K H x.1 x.2.1
section
variable {X : Cx} {pins : List (Addr × Obj)} {σ : L2.St} {H : Hp} {s : Shared} {a b : Addr} {kvs : List VTr} {k : TKy} {v : V} {r : Value} {A : Around} {E : Value → Shared → Prop} {ep : Nat}
end
end Lv
set_option Elab.async false
set_option linter.all false
set_option maxRecDepth 100000
set_option maxHeartbeats 2000000
namespace Lv
open PySem PySem.Spec PyProof.Rows L2 L2.DX
def refA : V → Addr
  | .ref a => a
  | _ => 0
def mkTr (ks : List TKy) (vs : List V) : List VTr := ks.zip (((vs.take ks.length).map refA).zip (vs.drop ks.length))
abbrev keyTD (k : TKy) : PyData := .tuple (NestedKey.datas k)
def dN (P : Program) (w : World) (ep : Nat) (kvs : List (TKy × S)) : MO := .own (fun p vs => nsφ P w ep (mkTr (kvs.map (·.1)) vs) p) (kvs.map (fun x => S.d (keyTD x.1)) ++ kvs.map (·.2))
def RepN (K : PySem.W.Frag) (F : Hp) : List VTr → List (TKy × S) → Prop := Paired fun p q => p.1 = q.1 ∧ KAt K F p.1 p.2.1 ∧ Rep K F p.2.2 q.2
section
variable {P : Program} {w : World} {K : PySem.W.Frag} {F F' H : Hp} {M : Mem} {p : Addr} {ep : Nat} {kvs : List (TKy × S)} {tr : List VTr}
theorem RepN.length (h : RepN K F tr kvs) : tr.length = kvs.length := Paired.length h
theorem RepN.mono (e : Same F F') : ∀ {tr : List VTr} {kvs : List (TKy × S)}, RepN K F tr kvs → RepN K F' tr kvs
  | _, _, .nil => .nil
  | _, _, .cons r t => .cons ⟨r.1, dpMono e _ _ r.2.1, r.2.2.mono e⟩ (RepN.mono e t)
theorem RepN.keys (sm : Same F H) : ∀ {tr : List VTr} {kvs : List (TKy × S)}, RepN K F tr kvs → KeysAt K H tr
  | _, _, .nil => fun _ h => nomatch h
  | _, _, .cons r t => fun x hx => by
    rcases List.mem_cons.mp hx with rfl | hx
    · exact dpMono sm _ _ r.2.1
    · exact RepN.keys sm t x hx
theorem look_any {κ : Type} [DecidableEq κ] (k : κ) : ∀ kvs : List (κ × S), (lookS kvs k).isSome = kvs.any fun kv => decide (kv.1 = k)
  | [] => rfl
  | a :: r => by
    rw [List.any_cons, ← look_any k r]
    by_cases h : a.1 = k
    · simp [lookS, List.find?_cons, h]
    · simp [lookS, List.find?_cons, h]
end
section
variable {X : Cx} {o i e f value : Expr} {pos pos' apos cpos tpos : Pos} {td ty tv tx : TE}
end
end Lv
set_option Elab.async false
set_option linter.all false
set_option maxRecDepth 100000
set_option maxHeartbeats 2000000
namespace Lv
open PySem PySem.Spec PyProof.Rows L2 L2.DX
section
variable {X : Cx} {W : WX} {k k' : Nat} {tg e a b c o f value : Expr} {es : List Expr} {pos pos' apos cpos tpos p p2 : Pos} {A B C V : AE} {As : AA} {s : S}
end
section
variable {X : Cx} {pins : List (Addr × Obj)} {σ : L2.St} {H : Hp} {s : Shared} {d : Addr} {kvs kvs' : List VTr} {ep : Nat}
end
section
variable {P : Program} {w : World} {K : PySem.W.Frag} {tg : Expr} {d : Addr} {ep n : Nat}
end
theorem RepN.at {K : PySem.W.Frag} {F : Hp} : ∀ {tr : List VTr} {kvs : List (TKy × S)} {i : Nat} {q : TKy × S}, RepN K F tr kvs → kvs[i]? = some q → ∃ x, tr[i]? = some x ∧ x.1 = q.1 ∧ KAt K F q.1 x.2.1 ∧ Rep K F x.2.2 q.2
  | _, _, _, _, .nil, e => by simp at e
  | _, _, 0, q, .cons (a := a) r t, e => by
    simp at e; subst e
    exact ⟨a, rfl, r.1, r.1 ▸ r.2.1, r.2.2⟩
  | _, _, i + 1, q, .cons r t, e => by
    obtain ⟨x, h1, h2⟩ := RepN.at (i := i) (q := q) t (by simpa using e)
    exact ⟨x, by simpa using h1, h2⟩
end Lv
set_option Elab.async false
set_option linter.all false
set_option maxRecDepth 100000
set_option maxHeartbeats 4000000
namespace Lv
open PySem PySem.Spec PyProof.Rows L2
end Lv
set_option Elab.async false
set_option linter.all false
set_option maxRecDepth 100000
set_option maxHeartbeats 2000000
namespace Lv
open PySem PySem.Spec PyProof.Rows L2
section
variable {X : Cx} {W : WX} {k k' i : Nat} {o e a b c value : Expr} {es : List Expr} {pos pos' apos cpos tpos p p2 : Pos} {A B : AE} {As : AA} {f x : Str}
end
section
variable {X : Cx} {W : WX} {k k' i : Nat} {o e a b c value : Expr} {es : List Expr} {pos pos' apos cpos tpos p p2 : Pos} {A B : AE} {As Bs : AA} {f x : Str} {kws : List Keyword}
end
section
variable {X : Cx} {W : WX} {k k' i : Nat} {o e a b c value : Expr} {es : List Expr} {pos pos' apos cpos tpos p p2 : Pos} {A B : AE} {As Bs : AA} {f x m : Str} {kws : List Keyword} {C : Addr} {ks ps : List Str} {sp : Sp2} {gS : S → List S → List S}
end
end Lv
set_option Elab.async false
set_option linter.all false
set_option maxRecDepth 100000
set_option maxHeartbeats 2000000
namespace Lv
open PySem PySem.Spec PyProof.Rows L2
section
variable {κ : Type} [DecidableEq κ] {kvs : List (κ × S)} {k k' : κ} {v : S}
theorem look_nil : lookS ([] : List (κ × S)) k = none := rfl
theorem look_cons (q : κ × S) : lookS (q :: kvs) k = if q.1 = k then some q.2 else lookS kvs k := by
  unfold lookS
  rw [List.find?_cons]
  by_cases h : q.1 = k <;> simp [h]
theorem look_app (l : List (κ × S)) : lookS (kvs ++ l) k = (lookS kvs k).or (lookS l k) := by
  unfold lookS
  rw [List.find?_append]
  cases kvs.find? fun kv => decide (kv.1 = k) <;> rfl
theorem look_none : lookS kvs k = none ↔ ∀ q, q ∈ kvs → q.1 ≠ k := by
  unfold lookS
  rw [Option.map_eq_none_iff, List.find?_eq_none]
  simp
theorem put_has (h : (lookS kvs k).isSome = true) : putS kvs k v = kvs.map fun kv => if kv.1 = k then (kv.1, v) else kv := by
  unfold putS
  rw [if_pos]
  rw [← look_any]
  exact h
theorem put_not (h : lookS kvs k = none) : putS kvs k v = kvs ++ [(k, v)] := putS_new' fun q hq => look_none.mp h q hq
theorem look_upd : lookS (kvs.map fun kv => if kv.1 = k then (kv.1, v) else kv) k' = if k' = k then (lookS kvs k).map (fun _ => v) else lookS kvs k' := by
  induction kvs with
  | nil => rw [List.map_nil, look_nil, look_nil]; split <;> rfl
  | cons q r ih =>
    rw [List.map_cons, look_cons, ih, look_cons (q := q) (k := k), look_cons (q := q) (k := k')]
    by_cases hq : q.1 = k
    · subst hq
      by_cases e : k' = q.1
      · subst e; simp
      · simp [e, Ne.symm e]
    · by_cases e : k' = k
      · subst e; simp [hq]
      · simp [hq, e]
theorem look_put : lookS (putS kvs k v) k' = if k' = k then some v else lookS kvs k' := by
  cases h : lookS kvs k with
  | none =>
    rw [put_not h, look_app, look_cons, look_nil]
    by_cases e : k' = k
    · subst e
      simp [h]
    · simp [e, Ne.symm e]
  | some x =>
    rw [put_has (by rw [h]; rfl), look_upd, h]
    rfl
theorem look_drop : lookS (dropS kvs k) k' = if k' = k then none else lookS kvs k' := by
  unfold dropS
  induction kvs with
  | nil => rw [List.filter_nil, look_nil]; split <;> rfl
  | cons q r ih =>
    rw [List.filter_cons, look_cons (q := q) (k := k')]
    by_cases hq : q.1 = k
    · subst hq
      by_cases e : k' = q.1
      · subst e; simpa using ih
      · simpa [e, Ne.symm e] using ih
    · simp only [hq, ne_eq, not_false_eq_true, decide_true, if_true]
      rw [look_cons, ih]
      by_cases e : k' = k
      · subst e; simp [hq]
      · simp [e]
theorem put_keys : (putS kvs k v).map (·.1) = if (lookS kvs k).isSome = true then kvs.map (·.1) else kvs.map (·.1) ++ [k] := by
  cases h : lookS kvs k with
  | none => rw [put_not h, List.map_append]; rfl
  | some x =>
    rw [put_has (by rw [h]; rfl), List.map_map]
    refine List.map_congr_left fun q _ => ?_
    show (if q.1 = k then (q.1, v) else q).1 = q.1
    split <;> rfl
theorem put_nodup (h : (kvs.map (·.1)).Nodup) : ((putS kvs k v).map (·.1)).Nodup := by
  rw [put_keys]
  split
  · exact h
  · rename_i h2
    have h3 : lookS kvs k = none := by simpa using h2
    refine List.nodup_append.mpr ⟨h, by simp, fun a ha b hb => ?_⟩
    simp at hb
    subst hb
    obtain ⟨q, hq, rfl⟩ := List.mem_map.mp ha
    exact look_none.mp h3 q hq
theorem put_mem {q : κ × S} (h : q ∈ putS kvs k v) : q.1 = k ∨ ∃ x, (q.1, x) ∈ kvs := by
  have h2 : q.1 ∈ (putS kvs k v).map (·.1) := List.mem_map_of_mem h
  rw [put_keys] at h2
  split at h2
  · obtain ⟨y, hy, e⟩ := List.mem_map.mp h2
    exact .inr ⟨y.2, e ▸ hy⟩
  · rcases List.mem_append.mp h2 with h2 | h2
    · obtain ⟨y, hy, e⟩ := List.mem_map.mp h2
      exact .inr ⟨y.2, e ▸ hy⟩
    · simp at h2; exact .inl h2
theorem drop_mem {q : κ × S} (h : q ∈ dropS kvs k) : q ∈ kvs := (List.mem_filter.mp h).1
theorem drop_nodup (h : (kvs.map (·.1)).Nodup) : ((dropS kvs k).map (·.1)).Nodup := h.sublist (List.filter_sublist.map _)
end
def OptR {β : Type} (R : β → S → Prop) : Option β → Option S → Prop
  | none, none => True
  | some b, some s => R b s
  | _, _ => False
theorem OptR.mono {β : Type} {R R' : β → S → Prop} (h : ∀ b s, R b s → R' b s) : ∀ {o : Option β} {o' : Option S}, OptR R o o' → OptR R' o o'
  | none, none, _ => trivial
  | some _, some _, r => h _ _ r
  | none, some _, r => r.elim
  | some _, none, r => r.elim
theorem OptR.isSome {β : Type} {R : β → S → Prop} : ∀ {o : Option β} {o' : Option S}, OptR R o o' → o'.isSome = o.isSome
  | none, none, _ => rfl
  | some _, some _, _ => rfl
  | none, some _, r => r.elim
  | some _, none, r => r.elim
theorem OptR.some_of {β : Type} {R : β → S → Prop} {b : β} : ∀ {o' : Option S}, OptR R (some b) o' → ∃ s, o' = some s ∧ R b s
  | some s, r => ⟨s, rfl, r⟩
  | none, r => r.elim
theorem OptR.none_of {β : Type} {R : β → S → Prop} : ∀ {o' : Option S}, OptR R (none : Option β) o' → o' = none
  | some _, r => r.elim
  | none, _ => rfl
def mapPut {α β : Type} [DecidableEq α] (f : α → Option β) (a : α) (b : β) : α → Option β := fun x => if x = a then some b else f x
def mapDrop {α β : Type} [DecidableEq α] (f : α → Option β) (a : α) : α → Option β := fun x => if x = a then none else f x
structure MapIs {α β κ : Type} [DecidableEq κ] (kv : List (κ × S)) (key : α → κ) (f : α → Option β) (val : β → S → Prop) : Prop where
  nd : (kv.map (·.1)).Nodup
  ks : ∀ q, q ∈ kv → ∃ t, q.1 = key t
  look : ∀ t, OptR val (f t) (lookS kv (key t))
section
variable {α β κ : Type} [DecidableEq κ] [DecidableEq α] {kv : List (κ × S)} {key : α → κ} {f : α → Option β} {val val' : β → S → Prop} {t : α} {b : β} {s : S}
theorem MapIs.nil : MapIs ([] : List (κ × S)) key (fun _ => (none : Option β)) val := ⟨List.nodup_nil, fun _ h => absurd h List.not_mem_nil, fun _ => trivial⟩
theorem MapIs.mono (h : MapIs kv key f val) (k : ∀ b s, val b s → val' b s) : MapIs kv key f val' := ⟨h.nd, h.ks, fun t => (h.look t).mono k⟩
theorem MapIs.put (inj : ∀ x y, key x = key y → x = y) (h : MapIs kv key f val) (r : val b s) : MapIs (putS kv (key t) s) key (mapPut f t b) val := by
  refine ⟨put_nodup h.nd, fun q hq => ?_, fun u => ?_⟩
  · rcases put_mem hq with e | ⟨x, hx⟩
    · exact ⟨t, e⟩
    · exact h.ks (q.1, x) hx
  · rw [look_put]
    unfold mapPut
    by_cases e : u = t
    · subst e; rw [if_pos rfl, if_pos rfl]; exact r
    · rw [if_neg e, if_neg fun z => e (inj _ _ z)]; exact h.look u
theorem MapIs.drop (inj : ∀ x y, key x = key y → x = y) (h : MapIs kv key f val) : MapIs (dropS kv (key t)) key (mapDrop f t) val := by
  refine ⟨drop_nodup h.nd, fun q hq => h.ks _ (drop_mem hq), fun u => ?_⟩
  rw [look_drop]
  unfold mapDrop
  by_cases e : u = t
  · subst e; rw [if_pos rfl, if_pos rfl]; trivial
  · rw [if_neg e, if_neg fun z => e (inj _ _ z)]; exact h.look u
end
structure Fr (A : List Addr) (M M' : Mem) : Prop where
  keep : ∀ q o, M q = some o → q ∉ A → M' q = some o
  live : ∀ q, M q ≠ none → M' q ≠ none
section
variable {A B : List Addr} {M M1 M2 : Mem} {p : Addr} {o : MO}
theorem Fr.refl : Fr A M M := ⟨fun _ _ h _ => h, fun _ h => h⟩
theorem Fr.trans (a : Fr A M M1) (b : Fr A M1 M2) : Fr A M M2 := ⟨fun q o h n => b.keep q o (a.keep q o h n) n, fun q h => b.live q (a.live q h)⟩
theorem Fr.sub (a : Fr A M M1) (h : ∀ q, q ∈ A → q ∈ B) : Fr B M M1 := ⟨fun q o e n => a.keep q o e fun z => n (h q z), a.live⟩
theorem Fr.put (a : Fr A M M1) (h : p ∈ A) : Fr A M (mput M1 p o) := by
  refine ⟨fun q u e n => ?_, fun q h => ?_⟩
  · have z : q ≠ p := fun z => by subst z; exact n h
    rw [mput_ne z]; exact a.keep q u e n
  · by_cases e : q = p
    · subst e; rw [mput_same]; simp
    · rw [mput_ne e]; exact a.live q h
theorem Fr.new (a : Fr A M M1) (h : M p = none) : Fr A M (mput M1 p o) := by
  refine ⟨fun q u e n => ?_, fun q hq => ?_⟩
  · have z : q ≠ p := fun z => by subst z; rw [h] at e; cases e
    rw [mput_ne z]; exact a.keep q u e n
  · by_cases e : q = p
    · subst e; rw [mput_same]; simp
    · rw [mput_ne e]; exact a.live q hq
theorem Fr.del (a : Fr A M M1) (h : M p = none) : Fr A M (mdel M1 p) := by
  refine ⟨fun q u e n => ?_, fun q hq => ?_⟩
  · have z : q ≠ p := fun z => by subst z; rw [h] at e; cases e
    rw [mdel_ne z]; exact a.keep q u e n
  · have z : q ≠ p := fun z => by subst z; exact hq h
    rw [mdel_ne z]; exact a.live q hq
theorem Fr.none (a : Fr A M M1) (h : M1 p = none) : M p = none := by
  cases e : M p with
  | none => rfl
  | some o => exact absurd h (a.live p (by rw [e]; simp))
end
/-- a dict with keys None, whole number, text; its epoch told by nobody -/
def LA (P : Program) (w : World) (M : Mem) (p : Addr) (kvs : List (NKy × S)) : Prop := ∃ ep, M p = some (dL P w ep kvs)
def NA (P : Program) (w : World) (M : Mem) (p : Addr) (kvs : List (TKy × S)) : Prop := ∃ ep, M p = some (dN P w ep kvs)
theorem LA.keep {P : Program} {w : World} {M M' : Mem} {p : Addr} {kvs : List (NKy × S)} (h : LA P w M p kvs) (e : ∀ o, M p = some o → M' p = some o) : LA P w M' p kvs := let ⟨ep, h⟩ := h; ⟨ep, e _ h⟩
theorem NA.keep {P : Program} {w : World} {M M' : Mem} {p : Addr} {kvs : List (TKy × S)} (h : NA P w M p kvs) (e : ∀ o, M p = some o → M' p = some o) : NA P w M' p kvs := let ⟨ep, h⟩ := h; ⟨ep, e _ h⟩
end Lv
set_option Elab.async false
set_option linter.all false
set_option maxRecDepth 100000
set_option maxHeartbeats 2000000
namespace Lv
open PySem PySem.Spec PyProof.Rows L2
section
variable {X : Cx} {W : WX} {k : Nat} {o e a b c f value tg : Expr} {pos pos' apos cpos tpos p : Pos} {A B C V : AE} {As : AA}
end
end Lv
set_option Elab.async false
set_option linter.all false
set_option maxRecDepth 100000
set_option maxHeartbeats 2000000
namespace Lv
open PySem PySem.Spec PyProof.Rows L2
section
variable {X : Cx} {W : WX}
end
end Lv
set_option Elab.async false
set_option linter.all false
set_option maxRecDepth 100000
set_option maxHeartbeats 2000000
namespace Lv
open PySem PySem.Spec PyProof.Rows L2
section
variable {X : Cx} {W : WX}
end
end Lv
set_option Elab.async false
set_option linter.all false
set_option maxRecDepth 100000
set_option maxHeartbeats 2000000
namespace Lv
open PySem PySem.Spec PyProof.Rows L2
section
variable {X : Cx} {W : WX} {k : Nat} {a : Expr} {As : AA} {p pos : Pos}
end
end Lv
set_option Elab.async false
set_option linter.all false
set_option maxRecDepth 100000
set_option maxHeartbeats 2000000
namespace Lv
open PySem PySem.Spec PyProof.Rows L2
section
variable {X : Cx} {W : WX} {k : Nat}
end
end Lv
set_option Elab.async false
set_option linter.all false
set_option maxRecDepth 100000
set_option maxHeartbeats 2000000
namespace Lv
open PySem PySem.Spec PyProof.Rows L2
section
variable {X : Cx} {W : WX} {k k' : Nat} {a : Expr} {pos p : Pos} {As : AA} {C : Addr} {ps : List Str} {sp : Sp2}
end
end Lv
set_option Elab.async false
set_option linter.all false
set_option maxRecDepth 100000
set_option maxHeartbeats 2000000
namespace Lv
open PySem PySem.Spec PyProof.Rows L2
section
variable {X : Cx} {W : WX} {k : Nat} {a : Expr} {pos p : Pos} {As : AA}
end
end Lv
set_option Elab.async false
set_option linter.all false
set_option maxRecDepth 100000
set_option maxHeartbeats 2000000
namespace Lv
open PySem PySem.Spec PyProof.Rows L2
section
open PySem.SeqAt
open AutoSeq1 (wpAny_loadPart')
open MeetsSeq MeetsSeq2 MeetsSeq3 SeqRoads2
variable {prog : Program} {w : World} {A : Around} {R : Result → Shared → Prop} {E : Value → Shared → Prop} {s : Shared}
end
section
variable {prog : Program} {w : World} {K : Type} [DecidableEq K] {knd : HeapKind prog w K} {A : Around} {E : Value → Shared → Prop} {s : Shared}
end
end Lv
set_option Elab.async false
set_option linter.all false
set_option maxRecDepth 100000
set_option maxHeartbeats 2000000
namespace Lv
open PySem PySem.Spec PyProof.Rows L2
/-- x == y, asked inside a builtin: answered by φ, and nothing changes -/
def EqQ (X : Cx) (n : Nat) (x y : V) (H : Hp) (φ : Prop) : Prop := ∀ (A : Around) (pins : List (Addr × Obj)) (s : Shared) (σ : L2.St) (u v : Value), A.units + n < cLine → Inv X pins σ H s → RelV x u → RelV y v → ∃ r : Bool, (r = true ↔ φ) ∧ SeqAt.EqP X.prog X.w A s u v r
section
variable {X : Cx} {H : Hp} {n : Nat}
end
section
variable {X : Cx} {F H : Hp} {M : Mem} {u v : V} {s t : S} {φ : Prop}
end
end Lv
set_option Elab.async false
set_option linter.all false
set_option maxRecDepth 100000
set_option maxHeartbeats 2000000
namespace Lv
open PySem PySem.Spec PyProof.Rows L2
section
variable {X : Cx} {W : WX} {k k' : Nat} {a b : Expr} {pos : Pos} {A B : AE} {C f : Addr} {fd : FuncData} {ps : List Str} {sp : Sp2}
theorem EqQ.mono {n m : Nat} {x y : V} {H : Hp} {φ : Prop} (h : EqQ X n x y H φ) (l : n ≤ m) : EqQ X m x y H φ := fun A pins s σ u v hu => h A pins s σ u v (by omega)
end
end Lv
set_option Elab.async false
set_option linter.all false
set_option maxRecDepth 100000
set_option maxHeartbeats 4000000
namespace Lv
open PySem PySem.Spec PyProof.Rows L2
section
variable {X : Cx}
end
section
variable {X : Cx} {W : WX} {a b : Expr} {pos : Pos} {A B : AE}
end
end Lv
set_option Elab.async false
set_option linter.all false
set_option maxRecDepth 100000
set_option maxHeartbeats 2000000
namespace Lv
open PySem PySem.Spec PyProof.Rows L2
section
variable {X : Cx} {W : WX} {k : Nat} {a : Expr} {pos p p2 q : Pos} {A : AE}
end
end Lv
set_option Elab.async false
set_option linter.all false
set_option maxRecDepth 100000
set_option maxHeartbeats 2000000
namespace Lv
open PySem PySem.Spec PyProof.Rows L2 L2.DX
section
variable {X : Cx} {pins : List (Addr × Obj)} {σ : L2.St} {H : Hp} {s : Shared} {d : Addr} {kvs : List VTr} {ep : Nat}
end
section
variable {P : Program} {w : World} {K : PySem.W.Frag} {tg : Expr} {d : Addr} {ep n : Nat}
end
section
variable {X : Cx} {tg e : Expr} {td : TE} {apos cpos : Pos}
theorem Heap.DictRaw.push {h : Heap} {d : Addr} {es : Array DictEntry} {ep : Nat} (x : h.DictRaw d es ep) (o : Obj) : (h.push o).DictRaw d es ep := x.at fun _ e => Heap.get?_push_of_some _ e
end
section
variable {P : Program} {w : World} {K : PySem.W.Frag} {F : Hp} {d : Addr} {ep : Nat} {kvs : List (TKy × S)}
end
section
variable {X : Cx} {W : WX} {tg e : Expr} {A : AE} {apos cpos : Pos}
end
end Lv
set_option Elab.async false
set_option linter.all false
set_option maxRecDepth 100000
set_option maxHeartbeats 2000000
namespace Lv
open PySem PySem.Spec PyProof.Rows L2
/-- s, told as the data d: lists of the store, tuples of these, data below -/
def DeepM (M : Mem) : Nat → S → PyData → Prop
  | 0, _, _ => False
  | n + 1, s, d => s = .d d ∨
    (∃ r ss ds, s = .a r ∧ M r = some (.lst ss) ∧ d = .list ds ∧ ss.length = ds.length ∧ ∀ i (h : i < ds.length), ∃ x, ss[i]? = some x ∧ DeepM M n x ds[i]) ∨
    (∃ ss ds, s = .t ss ∧ d = .tuple ds ∧ ss.length = ds.length ∧ ∀ i (h : i < ds.length), ∃ x, ss[i]? = some x ∧ DeepM M n x ds[i])
section
variable {K : PySem.W.Frag} {F H : Hp} {M : Mem}
theorem dpAll_deep {n : Nat} (ih : ∀ (s : S) (d : PyData) (u : V), DeepM M n s d → Rep K F u s → Dp K H u d) : ∀ {vs : List V} {ss : List S} {ds : List PyData}, RepL K F vs ss → ss.length = ds.length → (∀ i (h : i < ds.length), ∃ x, ss[i]? = some x ∧ DeepM M n x ds[i]) → DpAll K H vs ds
  | _, _, [], .nil, _, _ => .nil
  | _, _, [], .cons _ _, e, _ => by simp at e
  | _, _, _ :: _, .nil, e, _ => by simp at e
  | _, _, d :: ds, .cons r t, e, h => by
    obtain ⟨x, h1, h2⟩ := h 0 (by simp)
    simp at h1
    subst h1
    exact .cons (ih _ _ _ h2 r) (dpAll_deep ih t (by simpa using e) fun i hi => by
      obtain ⟨x, g1, g2⟩ := h (i + 1) (by simpa using hi)
      exact ⟨x, by simpa using g1, by simpa using g2⟩)
theorem DeepM.dp (st : Stt K F H M) : ∀ (n : Nat) (s : S) (d : PyData) (u : V), DeepM M n s d → Rep K F u s → Dp K H u d
  | 0, _, _, _, h, _ => h.elim
  | n + 1, s, d, u, h, r => by
    rcases h with rfl | ⟨q, ss, ds, rfl, h1, rfl, h2, h3⟩ | ⟨ss, ds, rfl, rfl, h2, h3⟩
    · cases r with
      | d r => exact dpMono st.sub _ _ r
    · cases r
      obtain ⟨_, ho, h4, vs, h5, h6⟩ := st.mem q _ h1
      subst h5
      exact .lst (SqL.of h4) (dpAll_deep (fun s d u => DeepM.dp st n s d u) h6 h2 h3)
    · cases r with
      | t h4 h5 => exact .tup (sameT st.sub h4) (dpAll_deep (fun s d u => DeepM.dp st n s d u) h5 h2 h3)
end
section
variable {X : Cx} {W : WX} {k : Nat} {a b : Expr} {pos : Pos} {A B : AE}
end
section
variable {X : Cx}
end
section
variable {X : Cx} {W : WX} {k : Nat} {o e : Expr} {apos cpos : Pos} {A : AE} {As : AA}
end
section
variable {X : Cx} {W : WX} {st : Stmt} {r : List Stmt} {T U : AS}
end
end Lv
set_option Elab.async false
set_option linter.all false
set_option maxRecDepth 100000
set_option maxHeartbeats 2000000
namespace Lv
open PySem PySem.Spec PyProof.Rows L2 L2.DX
section
variable {X : Cx} {W : WX} {st : Stmt} {r : List Stmt} {T U : AS}
end
section
variable {prog : Program} {w : World} {K : Type} [DecidableEq K] {knd : HeapKind prog w K} {A : Around} {E : Value → Shared → Prop} {s : Shared}
end
section
variable {X : Cx} {pins : List (Addr × Obj)} {σ : L2.St} {H : Hp} {s : Shared} {a b : Addr} {kvs : List VTr} {ep : Nat} {k : TKy} {v d : V} {r : Value} {A : Around} {E : Value → Shared → Prop}
end
section
variable {X : Cx} {W : WX} {k k' : Nat} {tg e a b c o f value : Expr} {es : List Expr} {pos pos' apos cpos tpos p p2 : Pos} {A B C V : AE} {As : AA} {s : S} {td ty tv tx : TE}
end
end Lv
set_option Elab.async false
set_option linter.all false
set_option maxRecDepth 100000
set_option maxHeartbeats 1000000
namespace Lv
open PySem PySem.Spec PyProof.Rows L2
section
variable {X : Cx} {W : WX} {k k' : Nat} {tg e a b c o : Expr} {es : List Expr} {pos pos' p p2 apos cpos : Pos} {A B : AE} {As Bs : AA} {s : S}
end
end Lv
set_option Elab.async false
set_option linter.all false
set_option maxRecDepth 100000
set_option maxHeartbeats 1000000
namespace Lv
open PySem PySem.Spec PyProof.Rows L2
theorem forR {ρ : Rl} {M : Mem} {G : AG} {T : AS} {R : K2} {Bk : Rl → Mem → Prop} {Ex : Addr → S → Rl → Mem → Prop} {E : Rl → Mem → Prop}
    (lo : Int) (n : Nat) (J : Nat → Rl → Mem → Prop) (h0 : J 0 ρ M)
    (hs : ∀ i ρ M, i < n → J i ρ M → G (.i (lo + (i : Int))) ρ M (fun ρ' M' => T ⟨J (i + 1), R, Bk, J (i + 1), Ex⟩ ρ' M') (fun C s M => Ex C s ρ M))
    (he : ∀ ρ M, J n ρ M → E ρ M) :
    ∃ Iv : Nat → Rl → Mem → Prop, Iv 0 ρ M ∧ (∀ i ρ M, Iv i ρ M → True) ∧
      (∀ i x ρ M, (rngS lo n)[i]? = some x → Iv i ρ M → G x ρ M (fun ρ' M' => T ⟨Iv (i + 1), R, Bk, Iv (i + 1), Ex⟩ ρ' M') (fun C s M => Ex C s ρ M)) ∧
      ∀ ρ M, Iv (rngS lo n).length ρ M → E ρ M := by
  refine ⟨J, h0, fun _ _ _ _ => trivial, fun i x ρ M hi hj => ?_, fun ρ M hj => ?_⟩
  · obtain ⟨h1, h2⟩ := rngS_get hi
    subst h2
    exact hs i ρ M h1 hj
  · rw [rngS_len] at hj
    exact he ρ M hj
end Lv
set_option Elab.async false
set_option linter.all false
set_option maxRecDepth 100000
set_option maxHeartbeats 2000000
namespace Lv
open PySem PySem.Spec PyProof.Rows L2
section
variable {X : Cx} {W : WX} {k : Nat} {a : Expr} {As : AA} {p pos : Pos}
end
end Lv
set_option Elab.async false
set_option linter.all false
set_option maxRecDepth 100000
set_option maxHeartbeats 2000000
namespace Lv
open PySem PySem.Spec PyProof.Rows L2
section
variable {X : Cx} {pins : List (Addr × Obj)} {σ : L2.St} {H : Hp} {s : Shared} {k : Nat} {f a kS : Addr} {e1 : Nat} {fd : FuncData} {ps : List Str} {sp : Sp} {us : List Value} {β : Type} {bs : List β} {val : β → V} {key : β → PyData} {J : Nat → Hp → List V → Prop} {Q : VK}
end
section
variable {K : PySem.W.Frag} {F H : Hp}
end
section
variable {X : Cx} {W : WX} {k k' : Nat} {a : Expr} {pos p p2 kpos : Pos} {As : AA} {x : Str} {ps : List Str} {sp : Sp2}
end
end Lv
set_option Elab.async false
set_option linter.all false
set_option maxRecDepth 100000
set_option maxHeartbeats 2000000
namespace Lv
open PySem PySem.Spec PyProof.Rows L2
section
variable {X : Cx} {W : WX} {k' : Nat} {a : Expr} {As : AA} {p pos : Pos}
end
end Lv
set_option Elab.async false
set_option linter.all false
set_option maxRecDepth 100000
set_option maxHeartbeats 2000000
namespace Lv
open PySem PySem.Spec PyProof.Rows L2
section
variable (kx vx t0 i0 t1 i1 t2 i2 : Expr) (scope : Scope) (pos : Pos) (it : Value) (D : Addr) (env : Env)
end
section
variable {X : Cx} {pins : List (Addr × Obj)} {σ : L2.St} {H : Hp} {s : Shared} {tg iter kx vx : Expr} {gens : List Comprehension} {scope : Scope} {pos : Pos} {d : Nat} {it D : Addr} {tail : Sem PySem.Fin → Sem PySem.Fin} {J : It} {fp : List Addr} {tn : Nat → Heap → Prop} {g : TG} {tb : TS} {R : Result → Shared → Prop} {wi : TI}
end
section
variable {X : Cx} {W : WX} {kk : Nat} {A B : AE} {D0 : Addr}
end
end Lv
set_option Elab.async false
set_option linter.all false
set_option maxRecDepth 100000
set_option maxHeartbeats 2000000
namespace Lv
open PySem PySem.Spec PyProof.Rows L2
section
variable {X : Cx} {pins : List (Addr × Obj)} {σ : L2.St} {H : Hp} {s : Shared} {a b c : Addr} {kvs more : List VTr} {k : TKy} {v : V} {r : Value} {A : Around} {E : Value → Shared → Prop} {ep ep2 : Nat}
end
section
variable {X : Cx} {W : WX} {kk k' : Nat} {A B : AE} {D0 : Addr} {o e : Expr} {apos cpos : Pos}
end
end Lv
set_option Elab.async false
set_option linter.all false
set_option maxRecDepth 100000
set_option maxHeartbeats 2000000
namespace Lv
open PySem PySem.Spec PyProof.Rows L2
section
variable {X : Cx} {W : WX} {k k' : Nat} {a : Expr} {pos p p2 kpos : Pos} {As : AA} {x : Str} {ps : List Str} {sp : Sp2}
end
end Lv
set_option Elab.async false
set_option linter.all false
set_option maxRecDepth 100000
set_option maxHeartbeats 2000000
namespace Lv
open PySem PySem.Spec PyProof.Rows L2
section
variable {X : Cx} {pins : List (Addr × Obj)} {σ : L2.St} {H : Hp} {s : Shared} {a b c : Addr} {kvs : List (NKy × V)} {k : NKy} {v : V} {r u : Value} {A : Around} {E : Value → Shared → Prop} {ep : Nat}
end
section
variable {X : Cx} {W : WX} {kk k' : Nat} {A B : AE} {D0 : Addr} {o e : Expr} {apos cpos : Pos}
end
end Lv
set_option Elab.async false
set_option linter.all false
set_option maxRecDepth 100000
set_option maxHeartbeats 2000000
namespace Lv
open PySem PySem.Spec PyProof.Rows L2
section
variable {X : Cx} {W : WX} {a b : Expr} {es : List Expr} {pos : Pos} {A B : AE}
end
end Lv
set_option Elab.async false
set_option linter.all false
set_option maxRecDepth 100000
set_option maxHeartbeats 2000000
namespace Lv
open PySem PySem.Spec PyProof.Rows L2
section
variable {X : Cx} {W : WX} {k : Nat} {a : Expr} {As : AA} {p pos : Pos}
end
end Lv
set_option Elab.async false
set_option linter.all false
set_option maxRecDepth 100000
set_option maxHeartbeats 2000000
namespace Lv
open PySem PySem.Spec PyProof.Rows L2 L2.DX
section
variable {X : Cx} {W : WX} {k : Nat} {o e a b value tg : Expr} {pos pos' tpos apos cpos p p2 q : Pos} {A B : AE} {td : TE}
end
end Lv
set_option Elab.async false
set_option linter.all false
set_option maxRecDepth 100000
set_option maxHeartbeats 2000000
namespace Lv
open PySem PySem.Spec PyProof.Rows L2
section
variable {X : Cx} {W : WX} {k k' i n : Nat} {o e a b c value : Expr} {es : List Expr} {pos pos' apos cpos tpos p p2 : Pos} {A B : AE} {As Bs : AA} {f x m : Str} {kws : List Keyword} {C : Addr} {ks ps : List Str} {sp : Sp2}
end
end Lv
set_option Elab.async false
set_option linter.all false
set_option maxRecDepth 100000
set_option maxHeartbeats 2000000
namespace Lv
open PySem PySem.Spec PyProof.Rows L2 L2.DX
section
variable {X : Cx} {e : Expr} {td : TE} {apos cpos : Pos}
end
section
variable {X : Cx} {W : WX} {k : Nat} {a e : Expr} {A : AE} {As : AA} {apos cpos p pos : Pos}
end
end Lv
set_option Elab.async false
set_option linter.all false
set_option maxRecDepth 100000
set_option maxHeartbeats 2000000
namespace Lv
open PySem PySem.Spec PyProof.Rows L2 L2.DX
section
variable {X : Cx}
end
section
variable {X : Cx} {W : WX} {k : Nat} {a : Expr} {As : AA} {p pos : Pos}
end
end Lv
set_option Elab.async false
set_option linter.all false
set_option maxRecDepth 100000
set_option maxHeartbeats 2000000
namespace Lv
open PySem PySem.Spec PyProof.Rows L2
section
variable {X : Cx} {F H : Hp} {M : Mem} {u v : V} {s t : S} {φ : Prop}
end
section
variable {X : Cx} {W : WX} {k : Nat} {a b : Expr} {pos : Pos} {A B : AE}
end
end Lv
set_option Elab.async false
set_option linter.all false
set_option maxRecDepth 100000
set_option maxHeartbeats 2000000
namespace Lv
open PySem PySem.Spec PyProof.Rows L2
section
variable {X : Cx} {W : WX} {k k' i n : Nat} {o e a b c value : Expr} {es : List Expr} {pos pos' apos cpos tpos p p2 : Pos} {A B : AE} {As Bs : AA} {f x m : Str} {C : Addr} {ps : List Str} {dss : List S} {sp : Sp2}
end
end Lv
set_option Elab.async false
set_option linter.all false
set_option maxRecDepth 100000
set_option maxHeartbeats 2000000
namespace Lv
open PySem PySem.Spec PyProof.Rows L2
/-- room for k calls, whatever is handled -/
structure RoomW (k : Nat) (A : Around) : Prop where
  d : A.depth + 3 * k + 5 < recursionLimit
  u : A.units + 16 * k + 200 < cLine
theorem RoomW.mono {j k : Nat} {A : Around} (r : RoomW k A) (h : j ≤ k) : RoomW j A := by
  have a := r.d
  have b := r.u
  exact ⟨by omega, by omega⟩
theorem RoomW.deeper {k : Nat} {A : Around} (r : RoomW (k + 1) A) (env : Env) : RoomW k (A.deeper env) := by
  have a := r.d
  have b := r.u
  exact ⟨by show A.depth + 1 + 3 * k + 5 < recursionLimit; omega, by show A.units + 3 + 16 * k + 200 < cLine; omega⟩
section
variable {P : Program} {w : World} {K : PySem.W.Frag} {mg : Str → Option Value} {base : Heap}
end
section
variable {X : Cx} {W : WX} {k k' : Nat} {o : Expr} {pos apos : Pos} {A : AE} {m : Str} {C : Addr} {ps : List Str} {sp : Sp2}
end
end Lv
set_option Elab.async false
set_option linter.all false
set_option maxRecDepth 100000
set_option maxHeartbeats 2000000
namespace Lv
open PySem PySem.Spec PyProof.Rows L2 L2.DX
section
variable {X : Cx}
end
section
variable {X : Cx} {W : WX} {k : Nat} {a : Expr} {As : AA} {p pos : Pos}
end
section
variable {prog : Program} {w : World} {K : Type} [DecidableEq K] {knd : HeapKind prog w K} {A : Around} {E : Value → Shared → Prop} {s : Shared}
end
section
variable {X : Cx} {H : Hp}
end
section
variable {X : Cx} {W : WX} {k : Nat} {a b : Expr} {pos : Pos} {A B : AE}
end
end Lv
set_option Elab.async false
set_option linter.all false
set_option maxRecDepth 100000
set_option maxHeartbeats 2000000
namespace Lv
open PySem PySem.Spec PyProof.Rows L2
section
variable {prog : Program} {w : World} {A : Around} {E : Value → Shared → Prop} {s : Shared}
end
section
variable {X : Cx} {W : WX} {A : AE}
end
end Lv
set_option Elab.async false
set_option linter.all false
set_option maxRecDepth 100000
set_option maxHeartbeats 4000000
namespace Lv
open PySem PySem.Spec PySem.SeqAt PyProof.Rows L2 PySem.W
section
variable {prog : Program} {w : World} {A : Around} {s : Shared}
end
section
variable {X : Cx} {pins : List (Addr × Obj)} {σ : L2.St} {H : Hp} {s : Shared}
end
section
variable {X : Cx} {W : WX} {k : Nat} {a : Expr} {pos p : Pos} {As : AA}
end
end Lv
set_option Elab.async false
set_option linter.all false
set_option maxRecDepth 100000
set_option maxHeartbeats 4000000
namespace Lv
open PySem PySem.Spec PyProof.Rows L2
end Lv
set_option Elab.async false
set_option linter.all false
set_option maxRecDepth 100000
set_option maxHeartbeats 2000000
namespace Lv
open PySem PySem.Spec PyProof.Rows L2
section
variable {X : Cx} {W : WX} {a b : Expr} {es : List Expr} {pos : Pos} {A B : AE}
end
end Lv
set_option Elab.async false
set_option linter.all false
set_option maxRecDepth 100000
set_option maxHeartbeats 4000000
namespace Lv
open PySem PySem.Spec PyProof.Rows L2
section
variable {M : Model} {A : Around} {E : Value → Shared → Prop} {s : Shared} {base : Heap} {env : Env} {outer : List Env} {e L : Addr} {Z : Obj → Prop}
end
section
variable {X : Cx} {W : WX} {pins : List (Addr × Obj)} {σ : L2.St} {H3 : Hp} {s3 : Shared} {fp : List Addr} {scope : Scope} {cl : List (Str × Addr)} {C : Addr}
end
section
variable {X : Cx} {W : WX}
end
section
variable {X : Cx} {W : WX}
end
section
variable {items : List S} {ok : Mem → Prop} {G : AG} {A : AE} {T : AT} {own : List Nat} {ρ : Rl} {M : Mem} {P : K2} {Z : X2} {En : List S → Mem → K2 → Prop}
end
end Lv
set_option Elab.async false
set_option linter.all false
set_option maxRecDepth 100000
set_option maxHeartbeats 4000000
namespace Lv
open PySem PySem.Spec PyProof.Rows L2
theorem sky_up {B h : Heap} {l : List Env} {a L : Addr} {cls : Value} {d : Option Addr} (x : Sky B l a (L2N.Zn cls d) L h) : Sky B l a (Zc cls d) L h := by
  rcases x with ⟨a1, a2, a3, oe, vs, he, hz, hd, h1⟩ | fl | hh
  · exact .inl ⟨a1, a2, a3, oe, vs, he, hz.zc, hd, h1⟩
  · exact .inr (.inl (L2H.flyingZ_imp (fun _ h => L2N.Zn.zc h) fl))
  · exact .inr (.inr ⟨hh.1, hh.2.1, hh.2.2.1, L2H.tracedZ_imp (fun _ h => L2N.Zn.zc h) hh.2.2.2⟩)
theorem takes_up {X : Cx} {W : WX} (tk : L2.Takes X W) : L2N.Takes X W := fun u s' ⟨a, B, sI, pins, σ, H, cls, d, e, I, nb, up, sky, na, os, ag, w⟩ =>
  tk u s' ⟨a, B, sI, pins, σ, H, cls, d, e, I, nb, up, sky_up sky, na, os, ag, w⟩
theorem cx_up {P : Program} {w : World} {outer : List Env} {H : Hp} {s s' : Shared} {E : XK} {u : Value} (x : L2N.CX P w outer H s E u s') : L2.CX P w outer H s E u s' := by
  obtain ⟨a, B, H', cls, d, e, fl, hok, ub, na, os, ag, h⟩ := x
  exact ⟨a, B, H', cls, d, e, L2H.flyingZ_imp (fun _ h => L2N.Zn.zc h) fl, hok, ub, na, os, ag, h⟩
/-- a def whose errors may have a context -/
abbrev FnOkF (P : Program) (w : World) (K : PySem.W.Frag) (mg : Str → Option Value) (base : Heap) (k : Nat) (f : Addr) (fd : FuncData) (ps : List Str) (sp : Sp2) : Prop := FnOkG P w K mg base (L2.CX P w) k f fd ps (lift K sp)
section
variable {P : Program} {w : World} {K : PySem.W.Frag} {mg : Str → Option Value} {base : Heap}
theorem FnOkG.up {k : Nat} {f : Addr} {fd : FuncData} {ps : List Str} {sp : Sp} (h : FnOkG P w K mg base (L2N.CX P w) k f fd ps sp) : FnOkG P w K mg base (L2.CX P w) k f fd ps sp :=
  ⟨h.len, fun A0 envs t H0 ar us xs Q0 E0 gd rm en bd rv hsp => codeAny_mono (h.run A0 envs t H0 ar us xs Q0 E0 gd rm en bd rv hsp) fun r s' hr => by
    cases r with
    | error e => exact cx_up hr
    | ok fl => cases fl <;> exact hr⟩
/-- the context of such a def's body -/
abbrev cx2F (P : Program) (w : World) (K : PySem.W.Frag) (mg : Str → Option Value) (base : Heap) (N : List Str) (qual : Str) (st : Stmt) (f : Addr) (cdv : Value) (A : Around) (outer : List Env) (s : Shared) (H : Hp) (E : XK) : Cx :=
  cxOf (L2.CX P w) P w K mg base N qual (defScope st) f cdv A outer s H E
structure CxtF (X : Cx) (W : WX) (k : Nat) : Prop where
  cx : Cxt X W k
  tk : L2.Takes X W
theorem fn2F {x qual : Str} {st : Stmt} {f : Addr} {fd : FuncData} {N ps : List Str} {k : Nat} {sp : Sp2} (Fn : Fun K x qual st f fd) (Sc : FnScope N ps (defScope st)) (len : ∀ ss M P Z, sp ss M P Z → ss.length = ps.length)
    (hbody : ∀ (cdv : Value) (A : Around) (outer : List Env) (s : Shared) (H : Hp) (E : XK), CxtF (cx2F P w K mg base N qual st f cdv A outer s H E) (WD E) k →
      ∃ T, QSs (cx2F P w K mg base N qual st f cdv A outer s H E) (WD E) (defBody st) T ∧ ∀ ss M Pq Z, sp ss M Pq Z → T { nx := fun _ M' => Pq .n M', rt := Pq, ex := fun C s _ M' => Z C s M' } (start2 N ss) M) : FnOkF P w K mg base (k + 1) f fd ps sp := by
  obtain ⟨oc, od, kV, doc, pm, an, cdv, ct, osl, rfl, lk, hcd⟩ := Fn.ex
  refine fnG lk hcd Sc (fun vs H Q E h => ?_) (fun A outer s H vs Q E gd hr h => ?_)
  · obtain ⟨F, M, ss, P, Z, st, rp, h, _⟩ := h
    rw [rp.length]
    exact len _ _ _ _ h
  · obtain ⟨F, M, ss, Pq, Z, stt, rp, h, cq, cz⟩ := h
    have tk : L2.Takes (cx2F P w K mg base N qual st f cdv A outer s H E) (WD E) := L2.takes_of rfl rfl rfl rfl
    have ps : PassesOwn (model P w) (A.deeper (envOfC qual (defScope st) s.heap.objs.size f cdv)) (envOfC qual (defScope st) s.heap.objs.size f cdv) (cx2F P w K mg base N qual st f cdv A outer s H E).xe :=
      passes_of (K := fun e s'' => L2.CX P w outer H s E e s'') (E₁ := fun e' s'' => L2.CX P w outer H s E e' s'') (X := cx2F P w K mg base N qual st f cdv A outer s H E) rfl
    obtain ⟨T, hT, hq⟩ := hbody cdv A outer s H E ⟨⟨takes_up tk, rfl, Sc.nd, hr, ps, gd⟩, tk⟩
    refine ⟨_, hT, F, M, start2 N ss, _, stt, slR_start rp, hq ss M Pq Z h, ⟨fun F' H' M' σ ρ e st _ p => cq F' H' M' .non .n e st (.d .non) p, fun F' H' M' v s e st r p => cq F' H' M' v s e st r p, fun _ _ _ _ _ _ _ _ z => z.elim, fun _ _ _ _ _ _ _ _ z => z.elim,
      fun F' H' M' σ ρ C d s e st _ x z => cz F' H' M' C d s e st x z⟩⟩
end
structure CalF (P : Program) (w : World) (K : PySem.W.Frag) (mg : Str → Option Value) (base : Heap) (k : Nat) (x : Str) (ps : List Str) (sp : Sp2) : Prop where
  ex : ∃ f fd, FnOkF P w K mg base k f fd ps sp ∧ mg x = some (.ref f) ∧ PySem.W.keepIn K (.ref f) = true ∧ Binds K fd ps []
section
variable {X : Cx} {W : WX} {k : Nat} {e : Expr} {es : List Expr} {pos : Pos} {As : AA}
theorem qe_callF {k' : Nat} {x : Str} {ps : List Str} {sp : Sp2} {p : Pos} (c : CxtF X W k') (G : CalF X.prog X.w X.K X.mg X.base k x ps sp) (hk : k ≤ k') (hg : Gl X x) (ha : QAr X W (e :: es) As) (hdb : (x == ("__debug__" : Str)) = false := by decide)
    (he : starEach (e :: es) X.env = (false, eval e X.env) :: starEach es X.env := by rfl) (hpl : (backTo pos (starEach es X.env)).any (·.1) = false := by rfl) : QE X W (.Call (.Name x p) (e :: es) [] pos) (qCall sp As) := by
  obtain ⟨f, fd, Fo, hm, kp, bd⟩ := G.ex
  refine pe_imp (t := tCallS (lift X.K sp) (WE W) (can X.K (RepA X.K (e :: es).length) W As)) ⟨fun pins t σ H Q I h => ?_⟩ fun σ H Q h => call_sim h
  refine wpAny_Call_Name_kw (ld_glob I hg hm ?_ hdb)
  exact PySem.W.callWith_K (h₀ := X.base) I.ok.mod.kin kp (thn (ha.run pos pins t σ H _ I h) (by rintro us t2 ⟨xs, H2, I2, rv, q⟩; exact ⟨I2.kIn, run_fnG Fo c.cx.gd (c.cx.room.mono hk) bd (L2.passAt c.tk σ) I2 rv q⟩)) he hpl
end
section
variable {X : Cx} {x n : Str} {c : Value} {i : Nat} {body suite : List Stmt} {b₀ : Stmt} {np pos pos' : Pos} {tb : WX → TS} {ts : TS} {Wout : WX}
theorem ps_try_kpF (hs : X.stack = X.env :: X.outer) (hf : X.env.frame = some X.env.locals) (hex : X.ex = []) (hN : X.N.Nodup) (hi : X.N[i]? = some n) (hln : X.env.kindOf n = some .local) (hc : Names X x c) (tk : L2.Takes X Wout)
    (hb : ∀ (W : WX) (pn : List (Addr × Obj)) (xe : Value → Shared → Prop), L2.Takes (X.tr pn xe) W → PassesOwn (model X.prog X.w) X.A X.env xe → PSs (X.tr pn xe) body (tb W))
    (hsu : ∀ (a : Addr) (pn : List (Addr × Obj)), PSs (X.suite a pn) (b₀ :: suite) ts) :
    PS X (.Try body [.ExceptHandler (some (.Name x np)) (some n) (b₀ :: suite) pos'] [] [] pos) (fun D σ H => tb (wKp X.K c i ts Wout D) D σ H) := by
  refine ⟨fun pins s σ H D I h => ?_⟩
  have ok := I.ok
  have hfr : X.A.frames = some (X.env :: X.outer) := by rw [ok.frames, hs]
  have hloc : Loc X.env.scope n := .inl hln
  refine wpAny_Try_except ?_
  refine wpAny_mono ((hb (wKp X.K c i ts Wout D) (X.pn ++ pins) (fun e s₁ => wpAny (model X.prog X.w) X.A (noteFrame e X.env) (fun _ s₂ => wpAny (model X.prog X.w) X.A (setFlight e none) (fun _ s₃ =>
    wpAny (model X.prog X.w) X.A (handleBy e X.env [.ExceptHandler (some (.Name x np)) (some n) (b₀ :: suite) pos']) (SP X pins D) X.xe s₃) X.xe s₂) X.xe s₁) (fun u s' xx => ?_) PassesOwn.looking).run [] s σ H D (I.toTry _) h) (fun f s1 hsp => ?_) (fun e s1 he => he)
  · obtain ⟨a, B, sI, pins', σ', H', cls, d, rfl, J', nb, up, sky, na, os, ag, b, hb1, hyes, hno⟩ := xx
    have J : Inv X pins σ' H' sI := J'.ofTry ok
    have sky' : Sky B (X.env :: X.outer) a (Zc cls d) X.env.locals s'.heap := by rw [← hs]; exact sky
    show wpAny (model X.prog X.w) X.A (noteFrame (.ref a) X.env) _ _ _
    refine Sky.land Zc.steady hfr hf sky' fun h3 fl3 up3 => ?_
    have J3 : Inv X pins σ' H' { s' with heap := h3 } := J.landed nb fl3.1 (up.trans up3) os ag
    obtain ⟨oe3, vs3, he3, hz3, hd3⟩ := fl3.there
    have notFr : ∀ {h : Heap} {o : Obj} {vs : Array Value}, h.FunFrames B (X.env :: X.outer) → h.get? a = some o → o.data = .fields vs → a ∉ frs (X.env :: X.outer) := fun {h o vs} ff e dd hm => by
      obtain ⟨_, o', e', hnf⟩ := ff.mem hm
      rw [e] at e'; cases e'
      exact hnf _ dd
    have nfr := notFr fl3.2.2.1 he3 hd3
    have nL : a ≠ X.env.locals := fun z => nfr (List.mem_filterMap.mpr ⟨X.env, List.mem_cons_self, by rw [hf, z]⟩)
    have nF : a ∉ X.fs := fun hm => by
      obtain ⟨e, he, q⟩ := List.mem_filterMap.mp hm
      exact nfr (List.mem_filterMap.mpr ⟨e, List.mem_cons_of_mem _ he, q⟩)
    have nSt : a ∉ frs X.stack := by rw [hs]; exact nfr
    have noI : ∀ o, sI.heap.get? a = some o → False := fun o e => by
      have q := nb a o e nSt
      rw [fl3.2.1] at q; cases q
    have n0 : ∀ o, X.s_0.heap.get? a = some o → False := fun o e => by
      obtain ⟨o', q⟩ := J.base.there a o e (by rw [hex]; simp)
      exact noI o' q
    have np' : ∀ p ∈ X.pn ++ pins, p.1 ≠ a := fun p hp z => by
      have q := (J.pin p hp).1
      rw [z] at q
      exact noI _ q
    have S3 := J3.suite he3 hd3 na nL nF
    refine wpAny_handleBy_cons (codeAny_handlers_test ?_) (by intro q; cases q)
    have LT : PySem.W.Looks (model X.prog X.w) h3 (typeOf (.ref a)) cls := fun A Q E s k q => wpAny_typeOf_ref (k _ _ he3) (by rw [hz3.1]; exact q)
    have LM := PySem.W.exm_one (M := model X.prog X.w) (J3.kIn) LT hb1
    have test : ∀ {Q : Value → Shared → Prop} {E : Value → Shared → Prop}, Q c { s' with heap := h3 } → wpAny (model X.prog X.w) (X.A.mark (some (.ref a))) (eval (.Name x np) X.env) Q E { s' with heap := h3 } := fun {Q E} q => by
      obtain ⟨hg, hdbg, hm | ⟨hm, hv, hnn⟩⟩ := hc
      · exact ld_glob (X := X.suite a ((a, oe3) :: (X.pn ++ pins))) S3 hg hm q hdbg
      · exact ld_blt (X := X.suite a ((a, oe3) :: (X.pn ++ pins))) S3 hg hm hv q hnn hdbg
    refine test (LM.here ?_)
    cases b with
    | true =>
      refine codeAny_handlers_suite_as ?_
      refine HandSPX.lands_againZ fl3 fun h4 fl4 up4 => ?_
      have J4 : Inv X pins σ' H' { s' with heap := h4 } := J.landed nb fl4.1 ((up.trans up3).trans up4) os ag
      obtain ⟨oe4, vs4, he4, hz4, hd4⟩ := fl4.there
      have S4 := toSuite (a := a) (track J4 he4 hz4 hd4 na nL n0 np')
      refine store_ok (X := X.suite a (X.pn ++ pins)) (v := .ref a) S4 hN hi hloc rfl (fun s5 S5 => ?_) (.inr hln)
      refine wpAny_mono ((hsu a (X.pn ++ pins)).run [] s5 _ _ _ S5 (hyes rfl a na)) (fun f s6 hsp => ?_) (fun _ _ z => False.elim z)
      have end_ : ∀ {σ6 : L2.St} {H6 : Hp} {Q : Shared → Prop}, Inv (X.suite a (X.pn ++ pins)) [] σ6 H6 s6 → (∀ s7, Inv X pins (σ6.set i none) H6 s7 → Q s7) →
          wpAny (model X.prog X.w) X.A (do bindName X.env n .none; unbindBehindTheSuite X.env n pos') (fun _ s7 => Q s7) X.xe s6 := fun {σ6 H6 Q} S6 hq => gone_ok (ofSuite S6 ok) hN hi hln hq
      cases f with
      | next =>
        obtain ⟨σ6, H6, S6, q6⟩ := hsp
        exact end_ S6 fun s7 J7 => ⟨_, _, J7, q6⟩
      | brk =>
        obtain ⟨σ6, H6, S6, q6⟩ := hsp
        exact end_ S6 fun s7 J7 => ⟨_, _, J7, q6⟩
      | cont =>
        obtain ⟨σ6, H6, S6, q6⟩ := hsp
        exact end_ S6 fun s7 J7 => ⟨_, _, J7, q6⟩
      | ret u =>
        obtain ⟨v6, σ6, H6, S6, r6, q6⟩ := hsp
        exact end_ S6 fun s7 J7 => ⟨_, _, _, J7, r6, q6⟩
    | false =>
      show wpAny _ X.A (handleBy (.ref a) X.env []) _ _ _
      refine wpAny_handleBy_nil ?_
      obtain ⟨k1, k2, k3, oe, vs, T, oT, ts', he, hz, hd, h1, hr⟩ := id fl3
      unfold PySem.passOn
      refine wpAny_bind (wpAny_field he hd h1 ?_)
      rw [if_neg (show ¬ ((Value.ref T == Value.none) = true) from by simp)]
      have fin : wpAny (model X.prog X.w) X.A (setFlight (.ref a) X.env.frame) (fun _ s4 => wpAny (model X.prog X.w) X.A (throw (.ref a) : Sem Flow) (SP X pins D) X.xe s4) X.xe { s' with heap := h3 } := by
        rw [hf]
        refine HandSPX.setFlight_upZ fl3 fun h4 hh4 up4 => wpAny_throw (tk _ _ ?_)
        exact ⟨a, B, sI, pins, σ', H', cls, d, rfl, J, nb, (up.trans up3).trans up4, .inr (.inr (by rw [hs]; exact hh4)), na, os, ag, hno rfl⟩
      first
        | exact wpAny_bind (wpAny_pure (wpAny_bind fin))
        | exact wpAny_bind fin
  · cases f with
    | next =>
      obtain ⟨σ', H', J', q⟩ := hsp
      exact wpAny_execs_nil ⟨σ', H', J'.ofTry ok, q⟩
    | brk =>
      obtain ⟨σ', H', J', q⟩ := hsp
      exact ⟨σ', H', J'.ofTry ok, q⟩
    | cont =>
      obtain ⟨σ', H', J', q⟩ := hsp
      exact ⟨σ', H', J'.ofTry ok, q⟩
    | ret u =>
      obtain ⟨v, σ', H', J', r, q⟩ := hsp
      exact ⟨v, σ', H', J'.ofTry ok, r, q⟩
end
section
variable {X : Cx} {W : WX} {k : Nat} {x n : Str} {c : Value} {i : Nat} {body suite : List Stmt} {b₀ : Stmt} {np pos pos' : Pos} {T U : AS}
theorem qs_tryF (cx : CxtF X W k) (hs : X.stack = X.env :: X.outer) (hf : X.env.frame = some X.env.locals) (hex : X.ex = []) (hi : X.N[i]? = some n) (hln : X.env.kindOf n = some .local) (hc : Names X x c)
    (hb : ∀ (W' : WX) (pn : List (Addr × Obj)) (xe : Value → Shared → Prop), CxtF (X.tr pn xe) W' k → QSs (X.tr pn xe) W' body T)
    (hsu : ∀ (a : Addr) (pn : List (Addr × Obj)), QSs (X.suite a pn) W0 (b₀ :: suite) U) :
    QS X W (.Try body [.ExceptHandler (some (.Name x np)) (some n) (b₀ :: suite) pos'] [] [] pos) (qTry X.K c i T U) := by
  refine ps_imp (ps_try_kpF (tb := fun W' => canS X.K W' T) (ts := canS X.K W0 U) hs hf hex cx.cx.nd hi hln hc cx.tk (fun W' pn xe tk ps => hb W' pn xe ⟨⟨takes_up tk, cx.cx.calm, cx.cx.nd, cx.cx.room, ps, cx.cx.gd⟩, tk⟩) hsu) ?_
  rintro D σ H ⟨F, M, ρ, D2, st, sl, h, cv⟩
  refine ⟨F, M, ρ, _, st, sl, h, ⟨cv.nx, cv.rt, cv.bk, cv.ct, ?_⟩⟩
  rintro F1 H1 M1 σ1 ρ1 C d s e1 st1 sl1 xa ⟨b, hb, h1⟩
  refine ⟨b, hb, fun eb a ha => ?_, fun eb => ?_⟩
  · subst eb
    have h1 := h1 a (st1.mfree ha)
    obtain ⟨⟨v, hv, rv⟩, nf, nm⟩ := xa
    have hda : d ≠ a := ne_of_none hv ha
    have hx : ∀ d' fs, H1 d' = some (.xd fs) → F1 d' = none → upd H1 a (exq a (.ref C) (some d)) d' = some (.xd fs) ∧ F1 d' = none := fun d' fs h4 h5 => ⟨by rw [upd_ne (ne_of_none h4 ha)]; exact h4, h5⟩
    have hf1 := st1.free ha
    have st2 : Stt X.K F1 (upd H1 a (exq a (.ref C) (some d))) (mput M1 a (.exc C s)) := by
      refine ⟨fun b u e => by rw [upd_ne (ne_of_none e hf1)]; exact st1.sub b u e, fun q mo e => ?_⟩
      by_cases hq : q = a
      · subst hq
        rw [mput_same] at e; cases e
        exact ⟨hf1, _, upd_same, d, v, rfl, by rw [upd_ne hda]; exact hv, nf, rv⟩
      · rw [mput_ne hq] at e
        obtain ⟨g1, ho, g2, g3⟩ := st1.mem q mo e
        exact ⟨g1, ho, by rw [upd_ne hq]; exact g2, g3.frozen (Same.refl F1) hx⟩
    have e2 : Ext F1 H1 M1 F1 (upd H1 a (exq a (.ref C) (some d))) (mput M1 a (.exc C s)) := ⟨Same.refl F1, fun b u h4 h5 h6 => ⟨by rw [upd_ne (ne_of_none h4 ha)]; exact h4, h5, by rw [mput_ne (ne_of_none h4 ha)]; exact h6⟩⟩
    have e12 := e1.trans e2
    refine ⟨F1, _, _, _, st2, (sl1.set (s := .a a) .v), h1, ⟨fun F' H' M' σ' ρ' e' st' sl' q => cv.nx F' H' M' _ _ (e12.trans e') st' sl'.none q, fun F' H' M' v s e' => cv.rt F' H' M' v s (e12.trans e'), fun F' H' M' σ' ρ' e' st' sl' q => cv.bk F' H' M' _ _ (e12.trans e') st' sl'.none q,
      fun F' H' M' σ' ρ' e' st' sl' q => cv.ct F' H' M' _ _ (e12.trans e') st' sl'.none q, fun _ _ _ _ _ _ _ _ _ _ _ _ z => z.elim⟩⟩
  · subst eb
    exact cv.ex F1 H1 M1 σ1 ρ1 C d s e1 st1 sl1 xa h1
end
end Lv
set_option Elab.async false
set_option linter.all false
set_option maxRecDepth 100000
set_option maxHeartbeats 4000000
namespace Lv
open PySem PySem.Spec PyProof.Rows L2 L2H HotX
/-- an own error that may be made while another is handled -/
structure XCalH (P : Program) (w : World) (K : PySem.W.Frag) (mg : Str → Option Value) (base : Heap) (x : Str) (C : Addr) : Prop where
  hm : mg x = some (.ref C)
  xc : XC K C
  ex : ∃ fI fd, PySem.W.findIn K (.ref C) "__init__" = some (some (.ref fI)) ∧ PySem.W.typeIn K (.ref fI) = some (.type "function") ∧ FnH P w K mg base (L2N.CX P w) 1 fI fd ["self", "what"] (spXI K) ∧ Binds K fd ["self", "what"] []
section
variable {X : Cx} {W : WX} {k k' : Nat} {e : Expr} {es : List Expr} {pos pos' p cpos : Pos} {As : AA} {x : Str} {C : Addr} {j : Nat}
theorem qs_raiseFN (hc : HotC X) (tk : L2.Takes X W) (rm : RoomH 2 X.A) (G : XCalH X.prog X.w X.K X.mg X.base x C) (hg : Gl X x) (ha : QAr X W [e] As) (hdb : (x == ("__debug__" : Str)) = false := by decide) (he : starEach [e] X.env = (false, eval e X.env) :: starEach [] X.env := by rfl) (hpl : (backTo pos (starEach [] X.env)).any (·.1) = false := by rfl) :
    QS X W (.Raise (some (.Call (.Name x p) [e] [] pos)) (some (.Constant .none j cpos)) pos') (qRaise C As) := by
  obtain ⟨fI, fd, iC, tI, Fo, bd⟩ := G.ex
  refine ps_imp (ps_raiseHN hc tk (pmk5_oexH G.xc.T iC tI Fo rm hc bd passN hg G.hm ha hdb he hpl)) ?_
  rintro D σ H ⟨F, M, ρ, D2, st, sl, h, cv⟩
  refine ⟨F, M, ρ, _, _, st, sl, h, ⟨fun F1 H1 M1 vs ss e1 st1 r1 h1 => ?_, cv.z sl⟩⟩
  split at h1
  · cases r1.1 with
    | cons r rr =>
      cases rr
      refine ⟨(by show 1 ≤ 1000; decide), fun a han => ⟨a, C, _, rfl, G.xc.T, G.xc.no, upd_same, fun d hd hda => ⟨rfl, d, _, upd_same, by rw [upd_ne hda, upd_same], ?_, ?_⟩⟩⟩
      · rw [upd_ne hda] at hd; exact hd
      · have hd1 : H1 d = none := by rw [upd_ne hda] at hd; exact hd
        rename_i u
        have e : upd (del (upd (upd (upd H1 a (exo a C none)) d (exd d [(("what" : Str), u)])) a (exo a C (some d))) a) d (.xd [(("what" : Str), u)]) = upd H1 d (.xd [(("what" : Str), u)]) := by
          funext b
          by_cases hb : b = d
          · subst hb; rw [upd_same, upd_same]
          · rw [upd_ne hb, upd_ne hb]
            by_cases hba : b = a
            · subst hba; rw [del_same, han]
            · rw [del_ne hba, upd_ne hba, upd_ne hb, upd_ne hba]
        rw [e]
        obtain ⟨st2, e2⟩ := st1.newR (o := .xd [(("what" : Str), u)]) hd1
        exact cv.ex _ _ _ σ ρ C d _ (e1.trans e2) st2 (sl.mono (e1.trans e2).ff) ⟨⟨u, upd_same, r⟩, st1.free hd1, st1.mfree hd1⟩ h1
  · exact h1.elim
end
/-- what becomes of an error of the body: the suite U, which may raise; or on it goes -/
def hTryR (K : PySem.W.Frag) (c : Value) (U : AS) (D : E2) : Addr → S → Rl → Mem → Prop := fun C s ρ M => ∃ b, PySem.W.exmOne K (.ref C) c = some b ∧ BIf b (U D ρ M) (D.ex C s ρ M)
def qTryR (K : PySem.W.Frag) (c : Value) (T U : AS) : AS := fun D ρ M => T ⟨D.nx, D.rt, D.bk, D.ct, hTryR K c U D⟩ ρ M
section
variable {X : Cx} {W : WX} {k : Nat} {x : Str} {c : Value} {body suite : List Stmt} {b₀ : Stmt} {np pos pos' : Pos} {T U : AS}
theorem qs_tryR (cx : CxtF X W k) (hs : X.stack = X.env :: X.outer) (hf : X.env.frame = some X.env.locals) (hc : Names X x c) (hpa : ∀ hd : Option Value, PassesOwnAt (model X.prog X.w) (X.A.mark hd) X.A X.env X.xe)
    (hb : ∀ (W' : WX) (pn : List (Addr × Obj)) (xe : Value → Shared → Prop), Cxt (X.tr pn xe) W' k → QSs (X.tr pn xe) W' body T)
    (hsu : ∀ (a : Addr) (pn : List (Addr × Obj)), HotC (L2H.suiteX X a pn) → L2.Takes (L2H.suiteX X a pn) W → QSs (L2H.suiteX X a pn) W (b₀ :: suite) U) :
    QS X W (.Try body [.ExceptHandler (some (.Name x np)) none (b₀ :: suite) pos'] [] [] pos) (qTryR X.K c T U) := by
  refine ps_imp (L2H.ps_try_onlyX (tb := fun W' => canS X.K W' T) (ts := fun _ _ _ => canS X.K W U) hs hf hc hpa cx.tk (fun W' pn xe tk _ ps => hb W' pn xe ⟨tk, cx.cx.calm, cx.cx.nd, cx.cx.room, ps, cx.cx.gd⟩) (fun a oe cls d pn _ _ tk hot => hsu a _ hot tk)) ?_
  rintro D σ H ⟨F, M, ρ, D2, st, sl, h, cv⟩
  refine ⟨F, M, ρ, _, st, sl, h, ⟨cv.nx, cv.rt, cv.bk, cv.ct, ?_⟩⟩
  rintro F1 H1 M1 σ1 ρ1 C d s e1 st1 sl1 xa ⟨b, hb, h1⟩
  refine ⟨b, hb, fun eb a ha => ?_, fun eb => ?_⟩
  · subst eb
    exact ⟨F1, M1, ρ1, _, st1, sl1, h1, ⟨fun F' H' M' σ' ρ' e' st' sl' q => cv.nx F' H' M' _ _ (e1.trans e') st' sl' q, fun F' H' M' v s e' => cv.rt F' H' M' v s (e1.trans e'), fun F' H' M' σ' ρ' e' st' sl' q => cv.bk F' H' M' _ _ (e1.trans e') st' sl' q,
      fun F' H' M' σ' ρ' e' st' sl' q => cv.ct F' H' M' _ _ (e1.trans e') st' sl' q, fun F' H' M' σ' ρ' C d s e' => cv.ex F' H' M' σ' ρ' C d s (e1.trans e')⟩⟩
  · subst eb
    exact cv.ex F1 H1 M1 σ1 ρ1 C d s e1 st1 sl1 xa h1
end
/-- a def by its body, called while an error is handled -/
theorem Fun.okH {P : Program} {w : World} {K : PySem.W.Frag} {mg : Str → Option Value} {base : Heap} {x qual : Str} {st : Stmt} {f : Addr} {fd : FuncData} {N ps : List Str} {k : Nat} {sp : Sp} (F : Fun K x qual st f fd) (S : FnScope N ps (defScope st)) (len : ∀ vs H Q E, sp vs H Q E → vs.length = ps.length)
    (hbody : ∀ (cdv : Value) (A : Around) (outer : List Env) (s : Shared) (H : Hp) (vs : List V) (Q : VK) (E : XK) (p : Addr × Obj), sp vs H Q E →
      ∃ t, PSs (cxH (L2N.CX P w) P w K mg base N qual (defScope st) f cdv A outer s H E p) (defBody st) t ∧ t { nx := fun _ H' => Q .non H', rt := Q } (L2.start N vs) H) : FnH P w K mg base (L2N.CX P w) (k + 1) f fd ps sp := by
  obtain ⟨oc, od, kV, doc, pm, an, cdv, ct, osl, rfl, lk, hcd⟩ := F.ex
  exact fn_ofH lk hcd S len fun A outer s H vs Q E p _ hr hsp => hbody cdv A outer s H vs Q E p hsp
end Lv
set_option Elab.async false
set_option linter.all false
set_option maxRecDepth 100000
set_option maxHeartbeats 4000000
namespace Lv
open PySem PySem.Spec PyProof.Rows L2
section
variable {P : Program} {w : World} {K : PySem.W.Frag} {mg : Str → Option Value} {base : Heap} {k : Nat} {f : Addr} {fd : FuncData} {ps : List Str} {sp sp' : Sp2}
theorem FnOkG.down (h : FnOkF P w K mg base k f fd ps sp) (le : ∀ ss M P' Z, sp' ss M P' Z → sp ss M P' (fun _ _ _ => False)) : FnOk2 P w K mg base k f fd ps sp' := by
  have up : ∀ {vs H Q E}, lift K sp' vs H Q E → lift K sp vs H Q (fun _ _ _ => False) := fun {vs H Q E} ⟨F, M, ss, P', Z, st, rp, hh, cq, cz⟩ => ⟨F, M, ss, P', _, st, rp, le _ _ _ _ hh, cq, fun _ _ _ _ _ _ _ _ _ z => z⟩
  refine ⟨fun xs H0 Q0 E0 hsp => h.len xs H0 Q0 _ (up hsp), fun A0 envs t H0 ar us xs Q0 E0 gd rm en bd rv hsp => codeAny_mono (h.run A0 envs t H0 ar us xs Q0 _ gd rm en bd rv (up hsp)) fun r s' hr => ?_⟩
  cases r with
  | error e =>
    obtain ⟨_, _, _, _, _, _, _, _, _, _, _, _, w⟩ := (show L2.CX P w envs H0 t (fun _ _ _ => False) e s' from hr)
    exact w.elim
  | ok fl => cases fl <;> exact hr
/-- a promise that asks more -/
theorem FnOkG.sub (h : FnOkF P w K mg base k f fd ps sp) (le : ∀ ss M P' Z, sp' ss M P' Z → sp ss M P' Z) : FnOkF P w K mg base k f fd ps sp' := by
  have up : ∀ {vs H Q E}, lift K sp' vs H Q E → lift K sp vs H Q E := fun {vs H Q E} ⟨F, M, ss, P', Z, st, rp, hh, cq, cz⟩ => ⟨F, M, ss, P', Z, st, rp, le _ _ _ _ hh, cq, cz⟩
  exact ⟨fun xs H0 Q0 E0 hsp => h.len xs H0 Q0 _ (up hsp), fun A0 envs t H0 ar us xs Q0 E0 gd rm en bd rv hsp => h.run A0 envs t H0 ar us xs Q0 E0 gd rm en bd rv (up hsp)⟩
end
end Lv
set_option Elab.async false
set_option linter.all false
set_option maxRecDepth 100000
set_option maxHeartbeats 1000000
set_option pp.maxSteps 1200
namespace K41
open PySem PySem.Spec PyProof.Rows L2 Lv
def top (i : Nat) : Stmt := PySem.Challenge.pw_kindsofday_k41_texts_of_no_plan.main.body.getD i (.Pass ⟨0, 0, 0, 0⟩)
/-- what the walk asks of the names as the top has left them -/
structure Tx (mg : Str → Option Value) (ca : Nat → Addr) : Prop where
  z_ValueError : mg "ValueError" = none
  z_all : mg "all" = none
  z_int : mg "int" = none
  z_isinstance : mg "isinstance" = none
  z_len : mg "len" = none
  z_list : mg "list" = none
  z_max : mg "max" = none
  z_range : mg "range" = none
  z_set : mg "set" = none
  z_tuple : mg "tuple" = none
  g_LETTERS : ∃ u, mg "LETTERS" = some u ∧ RelV (.str "abcdefghijklmnopqrstuvwxyz") u
  g_MOST_ATTRIBUTES : ∃ u, mg "MOST_ATTRIBUTES" = some u ∧ RelV (.int 5) u
  g_MOST_DIMENSIONS : ∃ u, mg "MOST_DIMENSIONS" = some u ∧ RelV (.int 4) u
  g_MOST_LETTERS : ∃ u, mg "MOST_LETTERS" = some u ∧ RelV (.int 8) u
  g_MOST_MEASURES : ∃ u, mg "MOST_MEASURES" = some u ∧ RelV (.int 4) u
  k_DayError : mg "DayError" = some (.ref (ca 1))
  k_NoDeskRow : mg "NoDeskRow" = some (.ref (ca 12))
  k_NoFact : mg "NoFact" = some (.ref (ca 4))
  k_NoGroup : mg "NoGroup" = some (.ref (ca 7))
  k_NoMeasure : mg "NoMeasure" = some (.ref (ca 8))
  k_NoPlan : mg "NoPlan" = some (.ref (ca 2))
  k_NoRow : mg "NoRow" = some (.ref (ca 3))
  k_NoText : mg "NoText" = some (.ref (ca 11))
  k_NoThing : mg "NoThing" = some (.ref (ca 5))
  k_NoTime : mg "NoTime" = some (.ref (ca 10))
  k_NoWatch : mg "NoWatch" = some (.ref (ca 9))
  k_Twice : mg "Twice" = some (.ref (ca 6))
section
variable {P : Program} {w : World} {K : PySem.W.Frag} {mg : Str → Option Value} {base : Heap} {ca : Nat → Addr}
abbrev s_is_name : Stmt := top 16
theorem sc_is_name : FnScope ["text", "letter"] ["text"] (defScope s_is_name) := ⟨rfl, rfl, rfl, by decide +kernel, rfl, by decide +kernel, by decide +kernel⟩
def nmB (x : Str) : Bool := decide (1 ≤ x.length) && decide (x.length ≤ 8) && x.cps.toList.all fun c => strIn ⟨#[c]⟩ "abcdefghijklmnopqrstuvwxyz"
inductive sp_is_name (ss : List S) (M : Mem) (P : K2) (z3 : X2) : Prop
  | mk (x : Str) (h0 : ss = [.s x]) (h1 : x.length ≤ 10000) (h2 : P (.b (nmB x)) M) : sp_is_name  ss M P z3
theorem ok_is_name {f : Addr} {fd : FuncData} (F : Fun K "is_name" "is_name" s_is_name f fd) (Z : Tx mg ca) : FnOk2 P w K mg base 1 f fd ["text"] sp_is_name := by
  refine fn2 F sc_is_name (fun ss M P Z h => ?_) (fun cdv A outer s H E cx => ?_)
  · obtain ⟨w, rfl, _⟩ := h; rfl
  · refine ⟨_, (qs_one (qs_ret (qe_and (qe_lele qe_int (qe_len rfl Z.z_len (qa_cons (qv 0) qa_nil)) (qe_gI rfl Z.g_MOST_LETTERS)) (qe_one (qe_all cx rfl Z.z_all (qa_cons (qe_lcE enD_ok cx (qi_seq (qv 0)) (blkOk_by (own := [("letter", 1)]) rfl) (fun _ _ _ _ _ => (qgn 1 cx.blk.nd)) (fun _ _ _ _ _ => qts_nil) (fun _ _ _ _ _ cx => (qe_in cx (qv 1) (qe_gS rfl Z.g_LETTERS)))) qa_nil)))))), ?_⟩
    rintro ss M Pq Z ⟨x, rfl, hx, k⟩
    have hz : x.length ≤ sizeLine := Nat.le_trans hx (by decide)
    refine ⟨hz, ?_⟩
    have hn : nmB x = (decide ((1:Int) ≤ (x.length:Int)) && (decide ((x.length:Int) ≤ 8) && (x.cps.toList.map fun c => strIn ⟨#[c]⟩ "abcdefghijklmnopqrstuvwxyz").all id)) := by
      unfold nmB
      rw [Bool.and_assoc, List.all_map]
      congr 1
      · exact decide_eq_decide.mpr (by omega)
      · congr 1
        exact decide_eq_decide.mpr (by omega)
    rw [hn] at k
    refine byB (fun h => ?_) (fun h => ?_)
    · rw [h, Bool.true_and] at k
      refine byB (fun h => ?_) (fun h => ?_)
      · rw [h, Bool.true_and] at k
        refine ⟨_, rfl, lc_mapL x.cps.toList _ (fun c => .bool (strIn ⟨#[c]⟩ "abcdefghijklmnopqrstuvwxyz")) rfl (by show x.length < sizeLine; exact Nat.lt_of_le_of_lt hx (by decide)) rfl (fun c hc Q q => q) ⟨_, .inl (by rw [boolsD, List.map_map]; rfl), k⟩⟩
      · rw [h, Bool.false_and] at k
        exact k
    · rw [h, Bool.false_and] at k
      exact k
abbrev s_are_unlike_names : Stmt := top 17
theorem sc_are_unlike_names : FnScope ["names", "most", "name"] ["names", "most"] (defScope s_are_unlike_names) := ⟨rfl, rfl, rfl, by decide +kernel, rfl, by decide +kernel, by decide +kernel⟩
def unlikeB (xs : List Str) (most : Int) : Bool := decide ((xs.length : Int) ≤ most) && ((xs.map nmB).all id && decide ((met xs).length = xs.length))
inductive sp_are_unlike_names (ss : List S) (M : Mem) (P : K2) (z3 : X2) : Prop
  | mk (xs : List Str) (most : Int) (h0 : ss = [.d (.list (strsD xs)), .i most]) (h1 : xs.length ≤ 10000) (h2 : most ≤ 1000) (h3 : (∀ x, x ∈ xs → x.length ≤ 10000)) (h4 : P (.b (unlikeB xs most)) M) : sp_are_unlike_names  ss M P z3
theorem ok_are_unlike_names {f : Addr} {fd : FuncData} (F : Fun K "are_unlike_names" "are_unlike_names" s_are_unlike_names f fd) (Z : Tx mg ca) (C_is_name : Cal P w K mg base 1 "is_name" ["text"] sp_is_name) : FnOk2 P w K mg base 2 f fd ["names", "most"] sp_are_unlike_names := by
  refine fn2 F sc_are_unlike_names (fun ss M P Z h => ?_) (fun cdv A outer s H E cx => ?_)
  · obtain ⟨xs, most, rfl, _⟩ := h; rfl
  · refine ⟨_, (qs_one (qs_ret (qe_and (qe_le (qe_len rfl Z.z_len (qa_cons (qv 0) qa_nil)) (qv 1)) (qe_and (qe_all cx rfl Z.z_all (qa_cons (qe_lcE enD_ok cx (qi_seq (qv 0)) (blkOk_by (own := [("name", 2)]) rfl) (fun _ _ _ _ _ => (qgn 2 cx.blk.nd)) (fun _ _ _ _ _ => qts_nil) (fun _ _ _ _ _ cx => (qe_call cx C_is_name (by omega) rfl (qa_cons (qv 2) qa_nil)))) qa_nil)) (qe_one (qe_eq cx (qe_lenSet cx rfl Z.z_len rfl Z.z_set (qv 0)) (qe_len rfl Z.z_len (qa_cons (qv 0) qa_nil)))))))), ?_⟩
    rintro ss M Pq Z ⟨xs, most, rfl, hz, hmo, hx, k⟩
    have el : (strsD xs).length = xs.length := List.length_map _
    unfold unlikeB at k
    refine ⟨_, rfl, ?_⟩
    rw [el]
    refine byB (fun h => ?_) (fun h => ?_)
    · rw [h, Bool.true_and] at k
      refine ⟨_, rfl, lc_mapL xs (fun x => .s x) (fun x => .bool (nmB x)) (by rw [strsD, List.map_map]; rfl) (Nat.lt_of_le_of_lt hz (by decide)) rfl (fun c hc Q q => ⟨c, rfl, hx c hc, q⟩) ⟨_, .inl (by rw [boolsD, List.map_map]; rfl), ?_⟩⟩
      refine byB (fun h => ?_) (fun h => ?_)
      · rw [h, Bool.true_and] at k
        refine ⟨xs, .inl rfl, by have := of_decide_eq_true ‹decide ((xs.length : Int) ≤ most) = true›; omega, _, rfl, ?_⟩
        show Pq (.b (PyData.eqv (.int _) (.int _))) M
        rw [eqv_int, el]
        rw [show decide ((met xs).length = xs.length) = decide (((met xs).length : Int) = (xs.length : Int)) from decide_eq_decide.mpr (by omega)] at k
        exact k
      · rw [h, Bool.false_and] at k
        exact k
    · rw [h, Bool.false_and] at k
      exact k
end
end K41
set_option Elab.async false
set_option linter.all false
set_option maxRecDepth 100000
set_option maxHeartbeats 1000000
set_option pp.maxSteps 1200
namespace K41
open PySem PySem.Spec PyProof.Rows L2 Lv
section
variable {P : Program} {w : World} {K : PySem.W.Frag} {mg : Str → Option Value} {base : Heap} {ca : Nat → Addr}
abbrev Part := Str × List (Str × Str)
def attrD (a : Str × Str) : PyData := .tuple [.str a.1, .str a.2]
def partD (p : Part) : PyData := .tuple [.str p.1, .tuple (p.2.map attrD)]
def partsD (ps : List Part) : List PyData := ps.map partD
theorem kdm : ¬ (("dimensions_kept" : Str) = "measures_kept") := by decide +kernel
def planFs (ps : List Part) (ms : List Str) : List (Str × S) := [("dimensions_kept", .d (.list (partsD ps))), ("measures_kept", .d (.list (strsD ms)))]
structure PlanSm (ps : List Part) (ms : List Str) : Prop where
  lp : ps.length ≤ 10000
  lm : ms.length ≤ 10000
  xm : ∀ m, m ∈ ms → m.length ≤ 10000
  xp : ∀ p, p ∈ ps → p.1.length ≤ 10000 ∧ p.2.length ≤ 10000 ∧ ∀ a, a ∈ p.2 → a.1.length ≤ 10000
def partOk (p : Part) : Bool := unlikeB (p.2.map (·.1)) 5
def planFault (ps : List Part) (ms : List Str) : Option Str :=
  if ((ps.map (·.1)).isEmpty || !unlikeB (ps.map (·.1)) 4) = true then some "dimensions" else if ps.all partOk = false then some "attributes" else if unlikeB ms 4 = false then some "measures" else none
structure PlanT (K : PySem.W.Frag) (C : Addr) : Prop where
  cl : Cls K C
  nD : NoAttr K C "dimensions_kept"
  nM : NoAttr K C "measures_kept"
inductive sp_Plan_init (C CE : Addr) (ss : List S) (M : Mem) (P : K2) (Z : X2) : Prop
  | mk (p : Addr) (ps : List Part) (ms : List Str) (s : S) (h0 : ss = [.a p, .d (.list (partsD ps)), s]) (h1 : (s = .d (.list (strsD ms)) ∨ s = .d (.tuple (strsD ms)))) (h2 : M p = some (.ins C [])) (h3 : PlanSm ps ms) (h4 : 
  match planFault ps ms with
  | some t => Z CE (.s t) M
  | none => P .n (mput M p (.ins C (planFs ps ms)))) : sp_Plan_init C CE ss M P Z
theorem eqv_nil (xs : List PyData) : PyData.eqv (.list xs) (.list []) = xs.isEmpty := by
  cases xs <;> simp [PyData.eqv, PyData.eqvAll]
theorem depth_nil (x : PyData) : min x.depth (PyData.depth (.list [])) ≤ 60 := by
  simp [PyData.depth, PyData.depthAll]
  omega
theorem mput2 (M : Mem) (p : Addr) (a b : MO) : mput (mput M p a) p b = mput M p b := by
  funext q
  unfold mput
  split <;> rfl
abbrev s_Plan___init__ : Stmt := inClass (top 22) 0
theorem sc_Plan___init__ : FnScope ["self", "dimensions", "measures", "names", "name", "attributes", "attribute", "way"] ["self", "dimensions", "measures"] (defScope s_Plan___init__) := ⟨rfl, rfl, rfl, by decide +kernel, rfl, by decide +kernel, by decide +kernel⟩
theorem ok_Plan_init {f C CE : Addr} {fd : FuncData} {dv : V} (F : FnD K "__init__" "Plan.__init__" s_Plan___init__ [dv] f fd) (Z : Tx mg ca) (T : PlanT K C)
    (C_are_unlike_names : KCal P w K mg base 2 "are_unlike_names" 1 ["most"] ["names", "most"] sp_are_unlike_names) (X_NoPlan : XCal P w K mg base "NoPlan" CE) : FnOk2 P w K mg base 3 f fd ["self", "dimensions", "measures"] (sp_Plan_init C CE) := by
  refine fn2D F sc_Plan___init__ (fun ss M P Z h => ?_) (fun cdv A outer s H E cx => ?_)
  · obtain ⟨p, ps, ms, s, rfl, _⟩ := h; rfl
  · refine ⟨_, (qs_cons (qs_setLc (i := 3) enD_ok cx (qi_seq (qv 1)) (blkOk_by (own := [("name", 4), ("attributes", 5)]) rfl) (fun _ _ _ _ _ => (qg_tuple rfl (qgs_cons (qgn 4 cx.blk.nd) (qgs_cons (qgn 5 cx.blk.nd) qgs_nil)) (gl_cons gv_name (gl_cons gv_name gl_nil)))) (fun _ _ _ _ _ => qts_nil) (fun _ _ _ _ _ cx => (qv 4)))
    (qs_cons (qs_if (qt_w (qw_or (qt_eq cx (qv 3) (qe_lst qa_nil)) (qw_or1 (qt_not (qt_val (qe_callK cx C_are_unlike_names (by omega) rfl (qa_cons (qv 3) qa_nil) (qk_cons (qe_gI rfl Z.g_MOST_DIMENSIONS) qk_nil))))))) (qs_one (qs_raise cx (by omega) X_NoPlan rfl (qa_cons qe_str qa_nil))) qs_nil)
    (qs_cons (qs_for cx (qi_seq (qv 1)) (qg_tuple rfl (qgs_cons (qgn 4 cx.nd) (qgs_cons (qgn 5 cx.nd) qgs_nil)) (gl_cons gv_name (gl_cons gv_name gl_nil)))
    (qs_one (qs_if (qt_not (qt_val (qe_callK cx C_are_unlike_names (by omega) rfl (qa_cons (qe_lcE enD_ok cx (qi_seq (qv 5)) (blkOk_by (own := [("attribute", 6), ("way", 7)]) rfl) (fun _ _ _ _ _ => (qg_tuple rfl (qgs_cons (qgn 6 cx.blk.nd) (qgs_cons (qgn 7 cx.blk.nd) qgs_nil)) (gl_cons gv_name (gl_cons gv_name gl_nil)))) (fun _ _ _ _ _ => qts_nil) (fun _ _ _ _ _ cx => (qv 6))) qa_nil) (qk_cons (qe_gI rfl Z.g_MOST_ATTRIBUTES) qk_nil)))) (qs_one (qs_raise cx (by omega) X_NoPlan rfl (qa_cons qe_str qa_nil))) qs_nil)))
    (qs_cons (qs_if (qt_not (qt_val (qe_callK cx C_are_unlike_names (by omega) rfl (qa_cons (qe_listD rfl Z.z_list (qa_cons (qv 2) qa_nil)) qa_nil) (qk_cons (qe_gI rfl Z.g_MOST_MEASURES) qk_nil)))) (qs_one (qs_raise cx (by omega) X_NoPlan rfl (qa_cons qe_str qa_nil))) qs_nil)
    (qs_cons (qs_fld (qv 0) (qe_lcE enD_ok cx (qi_seq (qv 1)) (blkOk_by (own := [("name", 4), ("attributes", 5)]) rfl) (fun _ _ _ _ _ => (qg_tuple rfl (qgs_cons (qgn 4 cx.blk.nd) (qgs_cons (qgn 5 cx.blk.nd) qgs_nil)) (gl_cons gv_name (gl_cons gv_name gl_nil)))) (fun _ _ _ _ _ => qts_nil) (fun _ _ _ _ _ cx => (qe_tup (qa_cons (qv 4) (qa_cons (qe_tuple rfl Z.z_tuple (qa_cons (qv 5) qa_nil)) qa_nil))))))
    (qs_one (qs_fld (qv 0) (qe_listD rfl Z.z_list (qa_cons (qv 2) qa_nil))))))))), ?_⟩
    rintro ss M Pq Z ⟨p, ps, ms, s3, rfl, hs3, hp, sm, k⟩
    have hl3 : DL M s3 (strsD ms) ∨ s3 = .d (.tuple (strsD ms)) := hs3.imp .inl id
    have hz : ps.length < sizeLine := Nat.lt_of_le_of_lt sm.lp (by decide)
    -- names
    refine ⟨_, rfl, lc_mapL ps (fun p => .d (partD p)) (fun p => .str p.1) (by rw [partsD, List.map_map]; rfl) hz rfl (fun c hc Q q => q) ?_⟩
    have en : (ps.map fun p => PyData.str p.1) = strsD (ps.map (·.1)) := by rw [strsD, List.map_map]; rfl
    rw [en]
    refine ⟨_, _, .inl rfl, .inl rfl, depth_nil _, ?_⟩
    rw [eqv_nil]
    have ei : (strsD (ps.map (·.1))).isEmpty = (ps.map (·.1)).isEmpty := by cases ps <;> rfl
    rw [ei]
    have raise1 : ((ps.map (·.1)).isEmpty || !unlikeB (ps.map (·.1)) 4) = true → Z CE (.s "dimensions") M := fun h => by
      unfold planFault at k
      rw [if_pos h] at k
      exact k
    refine byB (fun h => ?_) (fun h => ?_)
    · refine byB (fun _ => ?_) (fun z => by cases z)
      exact raise1 (by rw [h]; rfl)
    · refine ⟨ps.map (·.1), 4, rfl, by rw [List.length_map]; exact sm.lp, by decide, fun x hx => ?_, ?_⟩
      · obtain ⟨q, hq, rfl⟩ := List.mem_map.mp hx
        exact (sm.xp q hq).1
      refine byB (fun h2 => ?_) (fun h2 => ?_)
      · exact raise1 (by rw [h, h2]; rfl)
      have hu : unlikeB (ps.map (·.1)) 4 = true := by simpa using h2
      have k1 : match (if ps.all partOk = false then some ("attributes" : Str) else if unlikeB ms 4 = false then some "measures" else none) with
        | some t => Z CE (.s t) M
        | none => Pq .n (mput M p (.ins C (planFs ps ms))) := by
        unfold planFault at k
        rw [if_neg (by rw [h, hu]; decide)] at k
        exact k
      -- the attributes' names
      refine ⟨_, rfl, fun i ρ M' => M' = M ∧ (∀ q, q ∈ ps.take i → partOk q = true) ∧ ∃ a b, ρ = [some (.a p), some (.d (.list (partsD ps))), some s3, some (.d (.list (strsD (ps.map (·.1))))), a, b, none, none], ⟨rfl, fun q hq => by simp at hq, none, none, rfl⟩, fun i ρ M' h => by rw [h.1]; rfl, ?_, ?_⟩
      · rintro i x ρ M' hi ⟨rfl, hall, a, b, rfl⟩
        rw [partsD, List.map_map, List.getElem?_map] at hi
        cases e : ps[i]? with
        | none => rw [e] at hi; cases hi
        | some q =>
          rw [e] at hi
          cases hi
          have hq := List.mem_of_getElem? e
          obtain ⟨q1, q2, q3⟩ := sm.xp q hq
          refine ⟨_, rfl, lc_mapL q.2 (fun p => .d (attrD p)) (fun p => .str p.1) (by rw [List.map_map]; rfl) (Nat.lt_of_le_of_lt q2 (by decide)) rfl (fun c hc Q q => q) ?_⟩
          have en2 : (q.2.map fun p => PyData.str p.1) = strsD (q.2.map (·.1)) := by rw [strsD, List.map_map]; rfl
          rw [en2]
          refine ⟨q.2.map (·.1), 5, rfl, by rw [List.length_map]; exact q2, by decide, fun x hx => ?_, ?_⟩
          · obtain ⟨q', hq', rfl⟩ := List.mem_map.mp hx
            exact q3 q' hq'
          refine byB (fun h2 => ?_) (fun h2 => ?_)
          · have hb : partOk q = false := by unfold partOk; simpa using h2
            have hf : ps.all partOk = false := by
              rw [List.all_eq_false]
              exact ⟨q, hq, by rw [hb]; decide⟩
            rw [if_pos hf] at k1
            exact k1
          · have hb : partOk q = true := by unfold partOk; simpa using h2
            refine ⟨rfl, fun q' hq' => ?_, _, _, rfl⟩
            rw [List.take_succ, e] at hq'
            rcases List.mem_append.mp hq' with h3 | h3
            · exact hall q' h3
            · simp at h3
              subst h3
              exact hb
      · rintro ρ M' ⟨rfl, hall, a, b, rfl⟩
        have hf : ¬ ps.all partOk = false := by
          have : ps.all partOk = true := List.all_eq_true.mpr fun q hq => hall q (by
            rw [List.take_of_length_le (by rw [partsD, List.length_map, List.length_map]; exact Nat.le_refl _)]
            exact hq)
          rw [this]; decide
        rw [if_neg hf] at k1
        -- the measures' names
        refine ⟨_, hl3, ms, 4, rfl, sm.lm, by decide, sm.xm, ?_⟩
        refine byB (fun h2 => ?_) (fun h2 => ?_)
        · have hb : unlikeB ms 4 = false := by simpa using h2
          rw [if_pos hb] at k1
          exact k1
        · have hb : ¬ unlikeB ms 4 = false := by simpa using h2
          rw [if_neg hb] at k1
          -- what is kept
          refine ⟨_, rfl, lc_mapL ps (fun p => .d (partD p)) partD (by rw [partsD, List.map_map]; rfl) hz rfl (fun c hc Q q => q) ?_⟩
          refine ⟨p, C, [], rfl, hp, T.cl, T.nD, by decide, ?_⟩
          refine ⟨_, hs3.imp .inl id, p, C, _, rfl, mput_same, T.cl, T.nM, (by show 1 < 1000; decide), ?_⟩
          show Pq .n (mput (mput _ p _) p _)
          rw [mput2]
          have e : qSFld.putFS "measures_kept" (S.d (.list (strsD ms))) (qSFld.putFS "dimensions_kept" (S.d (.list (ps.map partD))) []) = planFs ps ms := by
            show (if ("dimensions_kept" : Str) = "measures_kept" then _ else _) = _
            rw [if_neg kdm]
            rfl
          rw [e]
          exact k1
abbrev s_Plan_dimensions : Stmt := inClass (top 22) 1
theorem sc_Plan_dimensions : FnScope ["self"] ["self"] (defScope s_Plan_dimensions) := ⟨rfl, rfl, rfl, by decide +kernel, rfl, by decide +kernel, by decide +kernel⟩
theorem planFs_d (ps : List Part) (ms : List Str) : (planFs ps ms).lookup ("dimensions_kept" : Str) = some (.d (.list (partsD ps))) := rfl
def PlanAt (C : Addr) (M : Mem) (p : Addr) (ps : List Part) (ms : List Str) : Prop := M p = some (.ins C (planFs ps ms))
inductive sp_Plan_dimensions (C : Addr) (ss : List S) (M : Mem) (P : K2) (z3 : X2) : Prop
  | mk (p : Addr) (ps : List Part) (ms : List Str) (h0 : ss = [.a p]) (h1 : PlanAt C M p ps ms) (h2 : P (.d (.list (partsD ps))) M) : sp_Plan_dimensions C ss M P z3
theorem ok_Plan_dimensions {f C : Addr} {fd : FuncData} (F : Fun K "dimensions" "Plan.dimensions" s_Plan_dimensions f fd) (Z : Tx mg ca) (T : PlanT K C) : FnOk2 P w K mg base 1 f fd ["self"] (sp_Plan_dimensions C) := by
  refine fn2 F sc_Plan_dimensions (fun ss M P Z h => ?_) (fun cdv A outer s H E cx => ?_)
  · obtain ⟨p, ps, ms, rfl, _⟩ := h; rfl
  · refine ⟨_, (qs_one (qs_ret (qe_listD rfl Z.z_list (qa_cons (qe_fld (qv 0)) qa_nil)))), ?_⟩
    rintro ss M Pq Z ⟨p, ps, ms, rfl, hp, k⟩
    exact ⟨p, C, _, _, rfl, hp, T.cl, T.nD, planFs_d ps ms, _, .inl (.inl rfl), k⟩
abbrev s_Plan_measures : Stmt := inClass (top 22) 2
theorem sc_Plan_measures : FnScope ["self"] ["self"] (defScope s_Plan_measures) := ⟨rfl, rfl, rfl, by decide +kernel, rfl, by decide +kernel, by decide +kernel⟩
theorem planFs_m (ps : List Part) (ms : List Str) : (planFs ps ms).lookup ("measures_kept" : Str) = some (.d (.list (strsD ms))) := rfl
inductive sp_Plan_measures (C : Addr) (ss : List S) (M : Mem) (P : K2) (z3 : X2) : Prop
  | mk (p : Addr) (ps : List Part) (ms : List Str) (h0 : ss = [.a p]) (h1 : PlanAt C M p ps ms) (h2 : P (.d (.list (strsD ms))) M) : sp_Plan_measures C ss M P z3
theorem ok_Plan_measures {f C : Addr} {fd : FuncData} (F : Fun K "measures" "Plan.measures" s_Plan_measures f fd) (Z : Tx mg ca) (T : PlanT K C) : FnOk2 P w K mg base 1 f fd ["self"] (sp_Plan_measures C) := by
  refine fn2 F sc_Plan_measures (fun ss M P Z h => ?_) (fun cdv A outer s H E cx => ?_)
  · obtain ⟨p, ps, ms, rfl, _⟩ := h; rfl
  · refine ⟨_, (qs_one (qs_ret (qe_listD rfl Z.z_list (qa_cons (qe_fld (qv 0)) qa_nil)))), ?_⟩
    rintro ss M Pq Z ⟨p, ps, ms, rfl, hp, k⟩
    exact ⟨p, C, _, _, rfl, hp, T.cl, T.nM, planFs_m ps ms, _, .inl (.inl rfl), k⟩
theorem strsD_inj {a b : List Str} (h : strsD a = strsD b) : a = b := by
  induction a generalizing b with
  | nil => cases b <;> first | rfl | cases h
  | cons x r ih =>
    cases b with
    | nil => cases h
    | cons y s =>
      have h : PyData.str x :: strsD r = PyData.str y :: strsD s := h
      injection h with h1 h2
      injection h1 with h1
      rw [h1, ih h2]
theorem attrsD_inj {a b : List (Str × Str)} (h : a.map attrD = b.map attrD) : a = b := by
  induction a generalizing b with
  | nil => cases b <;> first | rfl | cases h
  | cons x r ih =>
    cases b with
    | nil => cases h
    | cons y s =>
      rw [List.map_cons, List.map_cons] at h
      injection h with h1 h2
      have h1 : PyData.tuple [.str x.1, .str x.2] = PyData.tuple [.str y.1, .str y.2] := h1
      injection h1 with h1
      injection h1 with a1 a2
      injection a1 with a1
      injection a2 with a2
      injection a2 with a2
      rw [ih h2, Prod.ext a1 a2]
theorem partsD_inj {a b : List Part} (h : partsD a = partsD b) : a = b := by
  induction a generalizing b with
  | nil => cases b <;> first | rfl | cases h
  | cons x r ih =>
    cases b with
    | nil => cases h
    | cons y s =>
      have h : partD x :: partsD r = partD y :: partsD s := h
      injection h with h1 h2
      have h1 : PyData.tuple [.str x.1, .tuple (x.2.map attrD)] = PyData.tuple [.str y.1, .tuple (y.2.map attrD)] := h1
      injection h1 with h1
      injection h1 with a1 a2
      injection a1 with a1
      injection a2 with a2
      injection a2 with a2
      rw [ih h2, Prod.ext a1 (attrsD_inj a2)]
theorem eclean_strs (ms : List Str) : Clean 1 (.list (strsD ms)) := fun d hd => by
  obtain ⟨x, _, rfl⟩ := List.mem_map.mp hd
  trivial
theorem eclean_part (q : Part) : Clean 3 (partD q) := by
  intro d hd
  simp only [List.mem_cons, List.not_mem_nil, or_false] at hd
  rcases hd with rfl | rfl
  · trivial
  · intro d hd
    obtain ⟨a, _, rfl⟩ := List.mem_map.mp hd
    intro d hd
    simp only [List.mem_cons, List.not_mem_nil, or_false] at hd
    rcases hd with rfl | rfl <;> trivial
theorem eclean_parts (ps : List Part) : Clean 4 (.list (partsD ps)) := fun d hd => by
  obtain ⟨x, _, rfl⟩ := List.mem_map.mp hd
  exact eclean_part x
theorem eclean_pair (ps : List Part) (ms : List Str) : Clean 5 (.tuple [.list (partsD ps), .list (strsD ms)]) := fun d hd => by
  simp only [List.mem_cons, List.not_mem_nil, or_false] at hd
  rcases hd with rfl | rfl
  · exact eclean_parts ps
  · exact (eclean_strs ms).le (by decide)
theorem bool_dec {b : Bool} {p : Prop} [Decidable p] (h : b = true ↔ p) : b = decide p := by
  cases b
  · have : ¬ p := fun z => by cases h.mpr z
    rw [decide_eq_false this]
  · rw [decide_eq_true (h.mp rfl)]
theorem eqv_pair (ps ps' : List Part) (ms ms' : List Str) : PyData.eqv (.tuple [.list (partsD ps), .list (strsD ms)]) (.tuple [.list (partsD ps'), .list (strsD ms')]) = decide (ps = ps' ∧ ms = ms') := by
  refine bool_dec ((clean_eqv (eclean_pair ps ms) (eclean_pair ps' ms')).trans ⟨fun h => ?_, fun h => by rw [h.1, h.2]⟩)
  injection h with h
  injection h with h1 h2
  injection h1 with h1
  injection h2 with h2
  injection h2 with h2
  exact ⟨partsD_inj h1, strsD_inj h2⟩
abbrev s_Plan___eq__ : Stmt := inClass (top 22) 3
theorem sc_Plan___eq__ : FnScope ["self", "other"] ["self", "other"] (defScope s_Plan___eq__) := ⟨rfl, rfl, rfl, by decide +kernel, rfl, by decide +kernel, by decide +kernel⟩
theorem planFs_mE (ps : List Part) (ms : List Str) : (planFs ps ms).lookup ("measures_kept" : Str) = some (.d (.list (strsD ms))) := rfl
inductive sp_Plan_eq (C : Addr) (ss : List S) (M : Mem) (P : K2) (z3 : X2) : Prop
  | mk (p q : Addr) (ps ps' : List Part) (ms ms' : List Str) (h0 : ss = [.a p, .a q]) (h1 : PlanAt C M p ps ms) (h2 : PlanAt C M q ps' ms') (h3 : P (.b (decide (ps = ps' ∧ ms = ms'))) M) : sp_Plan_eq C ss M P z3
theorem ok_Plan_eq {f C : Addr} {fd : FuncData} (F : Fun K "__eq__" "Plan.__eq__" s_Plan___eq__ f fd) (Z : Tx mg ca) (T : PlanT K C) : FnOk2 P w K mg base 1 f fd ["self", "other"] (sp_Plan_eq C) := by
  refine fn2 F sc_Plan___eq__ (fun ss M P Z h => ?_) (fun cdv A outer s H E cx => ?_)
  · obtain ⟨p, q, ps, ps', ms, ms', rfl, _⟩ := h; rfl
  · refine ⟨_, (qs_one (qs_ret (qe_eq cx (qe_tup (qa_cons (qe_fld (qv 0)) (qa_cons (qe_fld (qv 0)) qa_nil))) (qe_tup (qa_cons (qe_fld (qv 1)) (qa_cons (qe_fld (qv 1)) qa_nil)))))), ?_⟩
    rintro ss M Pq Z ⟨p, q, ps, ps', ms, ms', rfl, hp, hq, k⟩
    refine ⟨p, C, _, _, rfl, hp, T.cl, T.nD, planFs_d ps ms, p, C, _, _, rfl, hp, T.cl, T.nM, planFs_mE ps ms, ?_⟩
    refine ⟨q, C, _, _, rfl, hq, T.cl, T.nD, planFs_d ps' ms', q, C, _, _, rfl, hq, T.cl, T.nM, planFs_mE ps' ms', ?_⟩
    refine ⟨_, _, .inl rfl, .inl rfl, ?_, ?_⟩
    · have := (eclean_pair ps ms).depth
      omega
    · rw [eqv_pair]
      exact k
end
end K41
set_option Elab.async false
set_option linter.all false
set_option maxRecDepth 100000
set_option maxHeartbeats 1000000
set_option pp.maxSteps 1200
namespace K41
open PySem PySem.Spec PyProof.Rows L2 Lv
section
variable {P : Program} {w : World} {K : PySem.W.Frag} {mg : Str → Option Value} {base : Heap} {ca : Nat → Addr}
abbrev bigP : Int := 2305843009213693951
structure Dk (M : Mem) (p g : Addr) (f : Int) (n : Nat) : Prop where
  ex : ∃ (zs : List Int) (k : Int), M p = some (.lst [.a g, .i f, .i k]) ∧ M g = some (.lst ((intsD zs).map S.d)) ∧ 0 ≤ k ∧ k ≤ n ∧ (∀ z, z ∈ zs → 0 ≤ z) ∧ zs.length ≤ 1000
  ne : p ≠ g
  f0 : 0 ≤ f
  f1 : f < bigP
/-- nothing but the deck has changed -/
def Kp (p g : Addr) (M M' : Mem) : Prop := ∀ q o, M q = some o → q ≠ p → q ≠ g → M' q = some o
theorem Kp.refl {p g : Addr} {M : Mem} : Kp p g M M := fun _ _ h _ _ => h
theorem Kp.trans {p g : Addr} {M M1 M2 : Mem} (a : Kp p g M M1) (b : Kp p g M1 M2) : Kp p g M M2 := fun q o h h1 h2 => b q o (a q o h h1 h2) h1 h2
theorem Kp.putp {p g : Addr} {M M1 : Mem} {o : MO} (a : Kp p g M M1) : Kp p g M (mput M1 p o) := fun q u e h1 h2 => by rw [mput_ne h1]; exact a q u e h1 h2
theorem Kp.putg {p g : Addr} {M M1 : Mem} {o : MO} (a : Kp p g M M1) : Kp p g M (mput M1 g o) := fun q u e h1 h2 => by rw [mput_ne h2]; exact a q u e h1 h2
theorem Kp.put {p g r : Addr} {M M1 : Mem} {o : MO} (a : Kp p g M M1) (h : M r = none) : Kp p g M (mput M1 r o) := fun q u e h1 h2 => by
  rw [mput_ne fun z => ?_]
  · exact a q u e h1 h2
  · subst z; rw [h] at e; cases e
theorem Kp.del {p g r : Addr} {M M1 : Mem} (a : Kp p g M M1) (h : M r = none) : Kp p g M (mdel M1 r) := fun q u e h1 h2 => by
  rw [mdel_ne fun z => ?_]
  · exact a q u e h1 h2
  · subst z; rw [h] at e; cases e
theorem Dk.grow {M : Mem} {p g : Addr} {f : Int} {n m : Nat} (h : Dk M p g f n) (l : n ≤ m) : Dk M p g f m := by
  obtain ⟨⟨zs, k, h1, h2, h3, h4, h5, h6⟩, a, b, c⟩ := h
  exact ⟨⟨zs, k, h1, h2, h3, by omega, h5, h6⟩, a, b, c⟩
theorem Dk.keep {M M' : Mem} {p g : Addr} {f : Int} {n : Nat} (h : Dk M p g f n) (e1 : M' p = M p) (e2 : M' g = M g) : Dk M' p g f n := by
  obtain ⟨⟨zs, k, h1, h2, h3⟩, a, b, c⟩ := h
  exact ⟨⟨zs, k, e1.trans h1, e2.trans h2, h3⟩, a, b, c⟩
theorem Dk.sp {M : Mem} {p g : Addr} {f : Int} {n : Nat} (h : Dk M p g f n) : ∃ o, M p = some o := by obtain ⟨⟨zs, k, h1, _⟩, _⟩ := h; exact ⟨_, h1⟩
theorem Dk.sg {M : Mem} {p g : Addr} {f : Int} {n : Nat} (h : Dk M p g f n) : ∃ o, M g = some o := by obtain ⟨⟨zs, k, _, h1, _⟩, _⟩ := h; exact ⟨_, h1⟩
theorem ne_of_none {M : Mem} {p r : Addr} (hp : ∃ o, M p = some o) (hr : M r = none) : p ≠ r := fun z => by
  obtain ⟨o, h⟩ := hp
  subst z; rw [hr] at h; cases h
/-- a new object beside the deck -/
theorem Dk.put {M : Mem} {p g r : Addr} {f : Int} {n : Nat} {o : MO} (h : Dk M p g f n) (hr : M r = none) : Dk (mput M r o) p g f n :=
  h.keep (mput_ne (ne_of_none h.sp hr)) (mput_ne (ne_of_none h.sg hr))
theorem Dk.putne {M : Mem} {p g r : Addr} {f : Int} {n : Nat} {o : MO} (h : Dk M p g f n) (h1 : p ≠ r) (h2 : g ≠ r) : Dk (mput M r o) p g f n := h.keep (mput_ne h1) (mput_ne h2)
theorem Dk.delne {M : Mem} {p g r : Addr} {f : Int} {n : Nat} (h : Dk M p g f n) (h1 : p ≠ r) (h2 : g ≠ r) : Dk (mdel M r) p g f n := h.keep (mdel_ne h1) (mdel_ne h2)
theorem intsD_snoc (zs : List Int) (z : Int) : (intsD (zs ++ [z])).map S.d = (intsD zs).map S.d ++ [.i z] := by
  unfold intsD
  rw [List.map_append, List.map_append]
  rfl
structure Ty (M : Mem) (p g : Addr) (n : Nat) : Prop where
  ex : ∃ (zs : List Int) (cur f k : Int), M p = some (.lst [.a g, .i cur, .i f, .i k]) ∧ M g = some (.lst ((intsD zs).map S.d)) ∧ 0 ≤ k ∧ k ≤ n ∧ 0 ≤ cur ∧ (∀ z, z ∈ zs → 0 ≤ z) ∧ zs.length ≤ 1000 ∧ 0 ≤ f ∧ f < bigP
  ne : p ≠ g
theorem Ty.grow {M : Mem} {p g : Addr} {n m : Nat} (h : Ty M p g n) (l : n ≤ m) : Ty M p g m := by
  obtain ⟨⟨zs, c, f, k, h1, h2, h3, h4, h5⟩, a⟩ := h
  exact ⟨⟨zs, c, f, k, h1, h2, h3, by omega, h5⟩, a⟩
theorem Ty.keep {M M' : Mem} {p g : Addr} {n : Nat} (h : Ty M p g n) (e1 : M' p = M p) (e2 : M' g = M g) : Ty M' p g n := by
  obtain ⟨⟨zs, c, f, k, h1, h2, h3⟩, a⟩ := h
  exact ⟨⟨zs, c, f, k, e1.trans h1, e2.trans h2, h3⟩, a⟩
theorem Ty.gw {M M' : Mem} {p g : Addr} {n : Nat} (h : Ty M p g n) (w : Gw M M') : Ty M' p g n := by
  obtain ⟨⟨zs, c, f, k, h1, h2, h3⟩, a⟩ := h
  exact ⟨⟨zs, c, f, k, w _ _ h1, w _ _ h2, h3⟩, a⟩
theorem Ty.sp {M : Mem} {p g : Addr} {n : Nat} (h : Ty M p g n) : ∃ o, M p = some o := by obtain ⟨⟨zs, c, f, k, h1, _⟩, _⟩ := h; exact ⟨_, h1⟩
theorem Ty.sg {M : Mem} {p g : Addr} {n : Nat} (h : Ty M p g n) : ∃ o, M g = some o := by obtain ⟨⟨zs, c, f, k, _, h1, _⟩, _⟩ := h; exact ⟨_, h1⟩
theorem Ty.put {M : Mem} {p g r : Addr} {n : Nat} {o : MO} (h : Ty M p g n) (hr : M r = none) : Ty (mput M r o) p g n :=
  h.keep (mput_ne (ne_of_none h.sp hr)) (mput_ne (ne_of_none h.sg hr))
theorem Ty.putne {M : Mem} {p g r : Addr} {n : Nat} {o : MO} (h : Ty M p g n) (h1 : p ≠ r) (h2 : g ≠ r) : Ty (mput M r o) p g n := h.keep (mput_ne h1) (mput_ne h2)
theorem Ty.delne {M : Mem} {p g r : Addr} {n : Nat} (h : Ty M p g n) (h1 : p ≠ r) (h2 : g ≠ r) : Ty (mdel M r) p g n := h.keep (mdel_ne h1) (mdel_ne h2)
abbrev s__law_tray : Stmt := top 28
theorem sc__law_tray : FnScope ["script", "fold", "great", "cell", "much"] ["script"] (defScope s__law_tray) := ⟨rfl, rfl, rfl, by decide +kernel, rfl, by decide +kernel, by decide +kernel⟩
inductive sp__law_tray (ss : List S) (M : Mem) (P : K2) (Z : X2) : Prop
  | mk (ns : List Int) (h0 : ss = [.d (.list (intsD ns))]) (h1 : ns.length ≤ 63) (h2 : ∀ (p g : Addr) (M' : Mem), M p = none → M g = none → Gw M M' → Ty M' p g 0 → P (.a p) M') : sp__law_tray  ss M P Z
theorem ok__law_tray {f : Addr} {fd : FuncData} (F : Fun K "_law_tray" "_law_tray" s__law_tray f fd) (Z : Tx mg ca) : FnOk2 P w K mg base 1 f fd ["script"] sp__law_tray := by
  refine fn2 F sc__law_tray (fun ss M P Z h => ?_) (fun cdv A outer s H E cx => ?_)
  · obtain ⟨ns, rfl, _⟩ := h; rfl
  · refine ⟨_, (qs_cons (qs_set 1 cx.nd qe_int)
    (qs_cons (qs_set 2 cx.nd (qe_lstM qa_nil))
    (qs_cons (qs_for cx (qi_seq (qv 0)) (qgn 3 cx.nd)
    (qs_cons (qs_set 1 cx.nd (qe_mod (qe_add (qe_mul (qv 1) qe_int) (qv 3)) (qe_sub (qe_pow qe_int qe_int) qe_int)))
    (qs_cons (qs_set 4 cx.nd (qe_max2 cx rfl Z.z_max (qa_cons (qv 3) (qa_cons (qe_sub qe_int (qv 3)) qa_nil))))
    (qs_one (qs_if (qt_ge (qv 4) (qe_pow qe_int qe_int)) (qs_one (qs_expr (qe_append (qv 2) (qa_cons (qe_sub (qv 4) (qe_pow qe_int qe_int)) qa_nil)))) qs_nil)))))
    (qs_one (qs_ret (qe_lstM (qa_cons (qv 2) (qa_cons qe_int (qa_cons (qv 1) (qa_cons qe_int qa_nil)))))))))), ?_⟩
    rintro ss M Pq Z ⟨ns, rfl, hn, k⟩
    have p61 : CPow 2 61 := ⟨by decide, by decide, by decide⟩
    have p18 : CPow 10 18 := ⟨by decide, by decide, by decide⟩
    intro g hg
    refine ⟨_, rfl, forL ns (fun n => .i n) (fun dn ρ M' => Gw M M' ∧ ∃ (zs : List Int) (f : Int) (a3 a4 : Option S), ρ = [some (.d (.list (intsD ns))), some (.i f), some (.a g), a3, a4] ∧ M' g = some (.lst ((intsD zs).map S.d)) ∧ (∀ z, z ∈ zs → 0 ≤ z) ∧ zs.length ≤ dn.length ∧ 0 ≤ f ∧ f < bigP)
      (by rw [intsD, List.map_map]; rfl) ⟨Gw.refl.put hg, [], 314159265358979, _, _, rfl, mput_same, (fun z hz => by simp at hz), Nat.le_refl _, by decide, by decide⟩ (fun _ _ _ _ => rfl) ?_ ?_⟩
    · rintro dn n rest ρ M' e ⟨gw, zs, f, a3, a4, rfl, hz, hp, hl, f0, f1⟩
      have dnl : dn.length < ns.length := by
        have h := congrArg List.length e
        rw [List.length_append, List.length_cons] at h
        omega
      refine ⟨.inl ⟨by omega, by unfold bigP at f1; omega⟩, p61, (show (2 : Int) ^ (61 : Int).toNat - 1 ≠ 0 by decide), p18, ?_⟩
      have g0 : 0 ≤ (f * 1000003 + n).fmod bigP := Int.fmod_nonneg_of_pos _ (by decide)
      have g1 : (f * 1000003 + n).fmod bigP < bigP := Int.fmod_lt_of_pos _ (by decide)
      refine byB (fun h => ?_) (fun h => ?_)
      · have h := of_decide_eq_true h
        refine ⟨isL_of hz, p18, _, hz, ?_, fun q o h => by rw [mput_ne (ne_of_none ⟨o, h⟩ hg)]; exact gw q o h, zs ++ [(if 0 - n > n then 0 - n else n) - 10 ^ (18 : Int).toNat], _, _, _, rfl, by rw [mput_same, intsD_snoc], fun z hz' => ?_, by rw [List.length_append, List.length_append]; simp; omega, g0, g1⟩
        · rw [List.length_map, intsD, List.length_map]
          exact size_le (m := 100) (by omega)
        · rcases List.mem_append.mp hz' with h3 | h3
          · exact hp z h3
          · rw [List.mem_singleton.mp h3]
            have h : (10 : Int) ^ (18 : Int).toNat ≤ (if 0 - n > n then 0 - n else n) := h
            omega
      · exact ⟨gw, zs, _, _, _, rfl, hz, hp, by rw [List.length_append]; omega, g0, g1⟩
    · rintro ρ M' ⟨gw, zs, f, a3, a4, rfl, hz, hp, hl, f0, f1⟩
      intro p hpn
      have npg : p ≠ g := fun z => by subst z; rw [hz] at hpn; cases hpn
      exact k p g _ (gw.none hpn) hg (gw.put (gw.none hpn)) ⟨⟨zs, 0, f, 0, mput_same, by rw [mput_ne npg.symm]; exact hz, by decide, by decide, by decide, hp, by omega, f0, f1⟩, npg⟩
abbrev s__law_draw : Stmt := top 29
theorem sc__law_draw : FnScope ["tray", "many", "found", "mixed"] ["tray", "many"] (defScope s__law_draw) := ⟨rfl, rfl, rfl, by decide +kernel, rfl, by decide +kernel, by decide +kernel⟩
theorem draw_log {m : Int} (h0 : 0 < m) (h1 : m < 4611686018427387904) : m.natAbs.log2 < 9000 := by
  have : m.natAbs.log2 < 62 := (Nat.log2_lt (by omega)).mpr (by omega)
  omega
/-- a draw: some number below many; the tray has one draw more behind it -/
inductive sp__law_draw (ss : List S) (M : Mem) (P : K2) (Z : X2) : Prop
  | mk (p g : Addr) (many : Int) (n : Nat) (h0 : ss = [.a p, .i many]) (h1 : 0 < many) (h2 : many < 4611686018427387904) (h3 : Ty M p g n) (h4 : n < 1000000) (h5 : ∀ (r : Int) (M' : Mem), 0 ≤ r → r < many → Kp p g M M' → Ty M' p g (n + 1) → P (.i r) M') : sp__law_draw  ss M P Z
theorem ok__law_draw {f : Addr} {fd : FuncData} (F : Fun K "_law_draw" "_law_draw" s__law_draw f fd) (Z : Tx mg ca) : FnOk2 P w K mg base 1 f fd ["tray", "many"] sp__law_draw := by
  refine fn2 F sc__law_draw (fun ss M P Z h => ?_) (fun cdv A outer s H E cx => ?_)
  · obtain ⟨p, g, many, n, rfl, _⟩ := h; rfl
  · refine ⟨_, (qs_cons (qs_while cx (qt_w (qw_and (qt_lt (qe_ix (qv 0) qe_int) qe_int) (qw_and1 (qt_ne cx (qe_ix (qv 0) qe_int) (qe_lst qa_nil))))) (qs_one (qs_asg (qe_popAt (qe_ix (qv 0) qe_int) (qa_cons qe_int qa_nil)) (qg_subL (qv 0) qe_int (pg_sub (qv 0) qe_int set_list)))))
    (qs_cons (qs_if (qt_ge (qe_ix (qv 0) qe_int) qe_int) (qs_cons (qs_set 2 cx.nd (qe_mod (qe_ix (qv 0) qe_int) (qv 1)))
    (qs_cons (qs_asg (qe_fdivW (qe_ix (qv 0) qe_int) (qv 1)) (qg_subL (qv 0) qe_int (pg_sub (qv 0) qe_int set_list)))
    (qs_one (qs_ret (qv 2))))) qs_nil)
    (qs_cons (qs_asg (qe_add (qe_ix (qv 0) qe_int) qe_int) (qg_subL (qv 0) qe_int (pg_sub (qv 0) qe_int set_list)))
    (qs_cons (qs_set 3 cx.nd (qe_mod (qe_add (qe_mul (qe_add (qe_ix (qv 0) qe_int) qe_int) (qe_pow (qe_add (qe_ix (qv 0) qe_int) qe_int) qe_int)) (qe_mul qe_int (qe_ix (qv 0) qe_int))) (qe_sub (qe_pow qe_int qe_int) qe_int)))
    (qs_one (qs_ret (qe_mod (qe_fdivW (qe_mod (qe_pow (qv 3) qe_int) (qe_add (qe_pow qe_int qe_int) qe_int)) qe_int) (qv 1)))))))), ?_⟩
    rintro ss M Pq Z ⟨p, g, many, n, rfl, m0, m1, dk, hn, k⟩
    have npg := dk.ne
    obtain ⟨⟨zs, cur, f, c, hp, hg, c0, c1, u0, hz, hl, f0, f1⟩, _⟩ := dk
    refine ⟨fun m ρ M' => Kp p g M M' ∧ ∃ (zs : List Int) (cur : Int), m = zs.length ∧ ρ = [some (.a p), some (.i many), none, none] ∧ M' p = some (.lst [.a g, .i cur, .i f, .i c]) ∧ M' g = some (.lst ((intsD zs).map S.d)) ∧ 0 ≤ cur ∧ (∀ z, z ∈ zs → 0 ≤ z) ∧ zs.length ≤ 1000, ⟨zs.length, Kp.refl, zs, cur, rfl, rfl, hp, hg, u0, hz, hl⟩, ?_⟩
    rintro m ρ M1 ⟨kp, zs, cur, rfl, rfl, hp, hg, u0, hz, hl⟩
    -- behind the loop
    have rest : ∀ (M' : Mem), True := fun _ => trivial
    refine ⟨_, _, hp, rfl, ?_⟩
    have p61 : CPow 2 61 := ⟨by decide, by decide, by decide⟩
    have p18 : CPow 10 18 := ⟨by decide, by decide, by decide⟩
    have tail : ∀ Q : Prop, (BIf (decide ((2 : Int) ≤ cur)) (many ≠ 0) True → Q) → Q := fun Q h => h (by cases decide ((2 : Int) ≤ cur) <;> first | exact (show many ≠ 0 by omega) | trivial)
    refine byB (fun h1 => ?_) (fun h1 => ?_)
    · have h1 := of_decide_eq_true h1
      refine ⟨_, _, hp, rfl, _, _, .inr ⟨g, _, rfl, hg, rfl⟩, .inl rfl, depth_nil _, ?_⟩
      refine byB (fun h2 => ?_) (fun h2 => ?_)
      · -- the next great one
        cases zs with
        | nil => rw [eqv_nil] at h2; cases h2
        | cons z t =>
          refine ⟨_, _, hp, rfl, isL_of hg, _, 0, .i z, hg, by decide, by decide, by unfold seqIndex?; simp [intsD], rfl, ?_⟩
          refine ⟨_, _, by rw [mput_ne npg]; exact hp, rfl, ?_⟩
          exact ⟨t.length, by simp, kp.putg.putp, t, z, rfl, rfl, mput_same, by rw [mput_ne npg.symm, mput_same]; rfl, hz z (by simp), fun y hy => hz y (List.mem_cons_of_mem _ hy), by simp at hl; omega⟩
      · refine ⟨_, _, hp, rfl, byF (decide_eq_false (by omega)) ?_⟩
        refine ⟨_, _, hp, rfl, _, 3, hp, rfl, ?_⟩
        refine ⟨_, _, mput_same, rfl, _, _, mput_same, rfl, ⟨by decide, by decide, ?_⟩, .inl ⟨by omega, by unfold bigP at f1; omega⟩, _, _, mput_same, rfl, .inl ⟨by decide, by decide⟩, p61, (show (2 : Int) ^ (61 : Int).toNat - 1 ≠ 0 by decide), ?_⟩
        · have e5 : ((c + 1 + 2 : Int)).natAbs < 2 ^ 64 := by omega
          exact e5
        have gg : ∀ x : Int, (x.fmod ((2 : Int) ^ (61 : Int).toNat - 1)).natAbs < 2 ^ 64 := fun x => by
          have g0 : 0 ≤ x.fmod 2305843009213693951 := Int.fmod_nonneg_of_pos _ (by decide)
          have g1 : x.fmod 2305843009213693951 < 2305843009213693951 := Int.fmod_lt_of_pos _ (by decide)
          have e : ((2 : Int) ^ (61 : Int).toNat - 1) = 2305843009213693951 := by decide
          rw [e]
          omega
        refine ⟨⟨by decide, by decide, gg _⟩, p18, (show (10 : Int) ^ (18 : Int).toNat + 9 ≠ 0 by decide), ⟨(show (0 : Int) < 64 by decide), (show (64 : Int).natAbs.log2 < 9000 by decide)⟩, (show many ≠ 0 by omega), ?_⟩
        exact k _ _ (Int.fmod_nonneg_of_pos _ m0) (Int.fmod_lt_of_pos _ m0) kp.putp ⟨⟨zs, cur, f, c + 1, mput_same, by rw [mput_ne npg.symm]; exact hg, by omega, by omega, u0, hz, hl, f0, f1⟩, npg⟩
    · have h1 := of_decide_eq_false h1
      refine ⟨_, _, hp, rfl, byT (decide_eq_true (by omega)) ?_⟩
      refine ⟨_, _, hp, rfl, (show many ≠ 0 by omega), ?_⟩
      refine ⟨_, _, hp, rfl, ⟨m0, draw_log m0 m1⟩, ?_⟩
      refine ⟨_, 1, hp, rfl, ?_⟩
      exact k _ _ (Int.fmod_nonneg_of_pos _ m0) (Int.fmod_lt_of_pos _ m0) kp.putp ⟨⟨zs, cur / many, f, c, mput_same, by rw [mput_ne npg.symm]; exact hg, by omega, by omega, Int.ediv_nonneg u0 (by omega), hz, hl, f0, f1⟩, npg⟩
end
end K41
set_option Elab.async false
set_option linter.all false
set_option maxRecDepth 100000
set_option maxHeartbeats 1000000
set_option pp.maxSteps 1200
namespace K41
open PySem PySem.Spec PyProof.Rows L2 Lv
section
variable {P : Program} {w : World} {K : PySem.W.Frag} {mg : Str → Option Value} {base : Heap} {ca : Nat → Addr}
def lettersS : Str := "abcdefghijklmnopqrstuvwxyz"
def cs26 : List Nat := lettersS.cps.toList
theorem cs26_in : ∀ c, c ∈ cs26 → strIn ⟨#[c]⟩ lettersS = true := by decide +kernel
theorem cs26_nd : cs26.Nodup := by decide +kernel
theorem cs26_len : cs26.length = 26 := by decide +kernel
theorem one_inj {c d : Nat} (h : (⟨#[c]⟩ : Str) = ⟨#[d]⟩) : c = d := by
  have := congrArg (fun s : Str => s.cps.toList) h
  simpa using this
theorem atI_some {α : Type} {xs : List α} {i : Int} (h0 : 0 ≤ i) (h1 : i < xs.length) : ∃ x, atI xs i = some x ∧ x ∈ xs := by
  unfold atI ixN
  rw [if_pos h0, if_pos h1]
  have h2 : i.toNat < xs.length := by omega
  exact ⟨xs[i.toNat], List.getElem?_eq_getElem h2, List.getElem_mem h2⟩
theorem join_cps : ∀ ys : List Str, (Str.join "" ys).cps.toList = ys.flatMap fun y => y.cps.toList
  | [] => rfl
  | [x] => by simp [Str.join]
  | x :: y :: r => by
    show ((x.cps ++ _) ++ (Str.join "" (y :: r)).cps).toList = _
    rw [Array.toList_append, Array.toList_append, join_cps (y :: r)]
    show (x.cps.toList ++ []) ++ _ = _
    rw [List.append_nil]
    simp [List.flatMap_cons]
theorem nm_join {ys : List Str} (h : ∀ y, y ∈ ys → ∃ c, c ∈ cs26 ∧ y = ⟨#[c]⟩) (h1 : 1 ≤ ys.length) (h2 : ys.length ≤ 8) : nmB (Txt.join "" ys) = true := by
  have e : (Txt.join "" ys).cps.toList = ys.flatMap fun y => y.cps.toList := by
    show (Builtin.Str.glued "" ys).cps.toList = _
    rw [PySem.StrLaws.glued_eq_join]
    exact join_cps ys
  have el : ∀ ys : List Str, (∀ y, y ∈ ys → ∃ c, c ∈ cs26 ∧ y = ⟨#[c]⟩) → (ys.flatMap fun y => y.cps.toList).length = ys.length := by
    intro ys
    induction ys with
    | nil => intro _; rfl
    | cons y r ih =>
      intro h
      obtain ⟨c, _, rfl⟩ := h y (List.mem_cons_self ..)
      rw [List.flatMap_cons, List.length_append, ih fun y hy => h y (List.mem_cons_of_mem _ hy)]
      simp
      omega
  have len : (Txt.join "" ys).length = ys.length := by
    show (Txt.join "" ys).cps.size = _
    rw [← Array.length_toList, e]
    exact el ys h
  unfold nmB
  rw [len, e]
  simp only [Bool.and_eq_true, decide_eq_true_eq, List.all_eq_true]
  refine ⟨⟨h1, h2⟩, fun c hc => ?_⟩
  obtain ⟨y, hy, hc⟩ := List.mem_flatMap.mp hc
  obtain ⟨d, hd, rfl⟩ := h y hy
  simp at hc
  subst hc
  exact cs26_in c hd
theorem nodup_sub {α : Type} [DecidableEq α] : ∀ {L us : List α}, L.Nodup → (∀ x, x ∈ L → x ∈ us) → L.length ≤ us.length
  | [], _, _, _ => Nat.zero_le _
  | x :: r, us, nd, h => by
    have hx := h x (List.mem_cons_self ..)
    obtain ⟨h1, h2⟩ := List.nodup_cons.mp nd
    have := nodup_sub (L := r) (us := us.erase x) h2 fun y hy => (List.mem_erase_of_ne (fun z => by subst z; exact h1 hy)).mpr (h y (List.mem_cons_of_mem _ hy))
    rw [List.length_erase_of_mem hx] at this
    have := List.length_pos_of_mem hx
    simp only [List.length_cons]
    omega
/-- a letter that is not used yet -/
theorem free_letter {us : List Str} (h : us.length < 26) : ∃ c r, cs26.filter (fun c => !decide ((⟨#[c]⟩ : Str) ∈ us)) = c :: r ∧ c ∈ cs26 ∧ (⟨#[c]⟩ : Str) ∉ us := by
  cases e : cs26.filter (fun c => !decide ((⟨#[c]⟩ : Str) ∈ us)) with
  | nil =>
    have h1 : ∀ c, c ∈ cs26 → (⟨#[c]⟩ : Str) ∈ us := fun c hc => by
      have := List.filter_eq_nil_iff.mp e c hc
      simpa using this
    have h2 : ((cs26.map fun c => (⟨#[c]⟩ : Str))).Nodup := by
      refine List.Pairwise.map _ (fun a b hab z => hab (one_inj z)) cs26_nd
    have h3 := nodup_sub (us := us) h2 fun x hx => by
      obtain ⟨c, hc, rfl⟩ := List.mem_map.mp hx
      exact h1 c hc
    rw [List.length_map, cs26_len] at h3
    omega
  | cons c r =>
    have := List.mem_filter.mp (e ▸ List.mem_cons_self : c ∈ cs26.filter _)
    exact ⟨c, r, rfl, this.1, by simpa using this.2⟩
/-- the names used: data, or a list of the store beside the deck -/
def UsedD (M : Mem) (p g : Addr) (s : S) (us : List Str) : Prop := s = .d (.list (strsD us)) ∨ ∃ u, s = .a u ∧ M u = some (.lst ((strsD us).map S.d)) ∧ u ≠ p ∧ u ≠ g
theorem UsedD.dl {M M' : Mem} {p g : Addr} {s : S} {us : List Str} (h : UsedD M p g s us) (kp : Kp p g M M') : DL M' s (strsD us) := by
  rcases h with h | ⟨u, h, h1, h2, h3⟩
  · exact .inl h
  · exact .inr ⟨u, h, kp u _ h1 h2 h3⟩
theorem ones_sum : ∀ {ys : List Str}, (∀ y, y ∈ ys → ∃ c, c ∈ cs26 ∧ y = ⟨#[c]⟩) → (ys.map (·.length)).sum = ys.length
  | [], _ => rfl
  | y :: r, h => by
    obtain ⟨c, _, rfl⟩ := h y (List.mem_cons_self ..)
    rw [List.map_cons, List.sum_cons, ones_sum fun y hy => h y (List.mem_cons_of_mem _ hy)]
    show 1 + _ = _ + 1
    omega
theorem depth_str (x : Str) : (PyData.str x).depth ≤ 60 := by simp [PyData.depth]
theorem atI_zero {α : Type} (x : α) (xs : List α) : atI (x :: xs) 0 = some x := by
  unfold atI ixN
  rw [if_pos (by decide), if_pos (by simp only [List.length_cons]; omega)]
  rfl
structure NmsOk (nms : List Str) : Prop where
  nd : nms.Nodup
  nm : ∀ x, x ∈ nms → nmB x = true
theorem NmsOk.snoc {nms : List Str} {x : Str} (h : NmsOk nms) (h1 : nmB x = true) (h2 : x ∉ nms) : NmsOk (nms ++ [x]) := by
  refine ⟨List.nodup_append.mpr ⟨h.nd, by simp, fun a ha b hb z => ?_⟩, fun y hy => ?_⟩
  · simp at hb
    subst hb z
    exact h2 ha
  · rcases List.mem_append.mp hy with h3 | h3
    · exact h.nm y h3
    · simp at h3
      subst h3
      exact h1
theorem strsD_snoc (xs : List Str) (x : Str) : (strsD (xs ++ [x])).map S.d = (strsD xs).map S.d ++ [.s x] := by
  unfold strsD
  rw [List.map_append, List.map_append]
  rfl
def lowC (x : Str) : Prop := ∀ c, c ∈ x.cps.toList → c ∈ cs26
def lowN (x : Str) : Prop := x.length ≤ 8 ∧ 1 ≤ x.length ∧ lowC x
theorem lowN.nm {x : Str} (h : lowN x) : nmB x = true := by
  unfold nmB
  simp only [Bool.and_eq_true, decide_eq_true_eq, List.all_eq_true]
  exact ⟨⟨h.2.1, h.1⟩, fun c hc => cs26_in c (h.2.2 c hc)⟩
theorem lowC_add {a b : Str} (ha : lowC a) (hb : lowC b) : lowC (a ++ b) := fun c hc => by
  have hc : c ∈ (a.cps ++ b.cps).toList := hc
  rw [Array.toList_append] at hc
  rcases List.mem_append.mp hc with h | h
  · exact ha c h
  · exact hb c h
theorem lowC_cut {a : Str} (ha : lowC a) (lo hi : Option Int) : lowC (cutS a lo hi) := fun c hc => by
  unfold L2.cutS at hc
  simp only [List.toList_toArray] at hc
  exact ha c (List.mem_of_mem_drop (List.mem_of_mem_take hc))
theorem cut_len (a : Str) (lo hi : Option Int) : (cutS a lo hi).length ≤ a.length := by
  show (L2.cutS a lo hi).cps.size ≤ a.cps.size
  unfold L2.cutS
  rw [List.size_toArray, List.length_take, List.length_drop, Array.length_toList]
  omega
theorem cut8 (a : Str) : (cutS a none (some 8)).length ≤ 8 := by
  show (L2.cutS a none (some 8)).cps.size ≤ 8
  unfold L2.cutS
  rw [List.size_toArray, List.length_take]
  have : HT.sIx a.length a.length (some 8) ≤ 8 := by
    show (if (8 : Int) < 0 then ((8 : Int) + (a.length : Int)).toNat else min (8 : Int).toNat a.length) ≤ 8
    rw [if_neg (by decide)]
    exact Nat.min_le_left _ _
  have e : HT.sIx a.length 0 none = 0 := rfl
  rw [e]
  omega
theorem lowC_one {c : Nat} (h : c ∈ cs26) : lowC ⟨#[c]⟩ := fun d hd => by
  simp at hd
  subst hd
  exact h
theorem lowC_empty : lowC "" := fun d hd => by
  have : ("" : Str).cps.toList = [] := by decide +kernel
  rw [this] at hd
  cases hd
theorem lowC_rep {x : Str} (h : lowC x) (n : Nat) : lowC (repS x n) := fun c hc => by
  rw [repS_cps] at hc
  obtain ⟨l, hl, hc⟩ := List.mem_flatten.mp hc
  rw [(List.mem_replicate.mp hl).2] at hc
  exact h c hc
theorem len_pos {x : Str} (h : x ≠ ("" : Str)) : 1 ≤ x.length := by
  have : x.length ≠ 0 := fun z => h (by
    cases x with
    | mk cps =>
      have : cps = #[] := Array.eq_empty_of_size_eq_zero z
      subst this
      decide +kernel)
  omega
theorem low_join {ys : List Str} (h : ∀ y, y ∈ ys → ∃ c, c ∈ cs26 ∧ y = ⟨#[c]⟩) (h1 : 1 ≤ ys.length) (h2 : ys.length ≤ 8) : lowC (Txt.join "" ys) ∧ (Txt.join "" ys).length ≤ 8 := by
  have e : (Txt.join "" ys).cps.toList = ys.flatMap fun y => y.cps.toList := by
    show (Builtin.Str.glued "" ys).cps.toList = _
    rw [PySem.StrLaws.glued_eq_join]
    exact join_cps ys
  refine ⟨fun c hc => ?_, ?_⟩
  · rw [e] at hc
    obtain ⟨y, hy, hc⟩ := List.mem_flatMap.mp hc
    obtain ⟨d, hd, rfl⟩ := h y hy
    simp at hc
    subst hc
    exact hd
  · have := nm_join h h1 h2
    unfold nmB at this
    simp only [Bool.and_eq_true, decide_eq_true_eq] at this
    exact this.1.2
def words12b : List Str := ["dim", "sum", "kind", "fact", "forget", "first", "last", "day", "before", "none", "known", "ok"]
theorem words12b_low : ∀ x, x ∈ words12b → lowC x ∧ x.length ≤ 8 := by
  have : ∀ x, x ∈ words12b → (∀ c, c ∈ x.cps.toList → c ∈ cs26) ∧ x.length ≤ 8 := by decide +kernel
  exact this
/-- the names to choose from -/
def some79 (name : Str) : List Str := [name] ++ cs26.map (fun c => (⟨#[c]⟩ : Str)) ++ cs26.map (fun c => repS ⟨#[c]⟩ 3) ++ cs26.map (fun c => repS ⟨#[c]⟩ 5)
theorem some79_low {name : Str} (h : lowC name) (hl : name.length ≤ 8) : ∀ x, x ∈ some79 name → lowC x ∧ x.length ≤ 8 := fun x hx => by
  unfold some79 at hx
  simp only [List.mem_append, List.mem_map, List.mem_singleton] at hx
  rcases hx with ((rfl | ⟨c, hc, rfl⟩) | ⟨c, hc, rfl⟩) | ⟨c, hc, rfl⟩
  · exact ⟨h, hl⟩
  · exact ⟨lowC_one hc, by show 1 ≤ 8; decide⟩
  · exact ⟨lowC_rep (lowC_one hc) 3, by rw [repS_len]; show 3 * 1 ≤ 8; decide⟩
  · exact ⟨lowC_rep (lowC_one hc) 5, by rw [repS_len]; show 5 * 1 ≤ 8; decide⟩
theorem some79_free {name : Str} {us : List Str} (h : us.length < 26) : ∃ (x : Str) (r : List Str), (some79 name).filter (fun (x : Str) => decide (x ≠ ("" : Str)) && !decide (x ∈ us)) = x :: r ∧ x ∈ some79 name ∧ x ≠ ("" : Str) ∧ x ∉ us := by
  obtain ⟨c, _, _, hc, hn⟩ := free_letter h
  have hin : (⟨#[c]⟩ : Str) ∈ (some79 name).filter fun (x : Str) => decide (x ≠ ("" : Str)) && !decide (x ∈ us) := by
    refine List.mem_filter.mpr ⟨?_, ?_⟩
    · unfold some79
      simp only [List.mem_append, List.mem_map]
      exact .inl (.inl (.inr ⟨c, hc, rfl⟩))
    · have : (⟨#[c]⟩ : Str) ≠ ("" : Str) := fun z => by
        have := congrArg (fun s : Str => s.cps.size) z
        have e : ("" : Str).cps.size = 0 := by decide +kernel
        simp only [e] at this
        cases this
      simp [this, hn]
  cases e : (some79 name).filter fun (x : Str) => decide (x ≠ ("" : Str)) && !decide (x ∈ us) with
  | nil => rw [e] at hin; cases hin
  | cons x r =>
    have hx := List.mem_filter.mp (e ▸ List.mem_cons_self : x ∈ (some79 name).filter _)
    simp only [Bool.and_eq_true, decide_eq_true_eq, Bool.not_eq_true', decide_eq_false_iff_not] at hx
    exact ⟨x, r, rfl, hx.1, hx.2.1, hx.2.2⟩
structure NmL (nms : List Str) : Prop where
  nd : nms.Nodup
  low : ∀ x, x ∈ nms → lowN x
theorem NmL.ok {nms : List Str} (h : NmL nms) : NmsOk nms := ⟨h.nd, fun x hx => (h.low x hx).nm⟩
theorem NmL.snoc {nms : List Str} {x : Str} (h : NmL nms) (h1 : lowN x) (h2 : x ∉ nms) : NmL (nms ++ [x]) := by
  refine ⟨List.nodup_append.mpr ⟨h.nd, by simp, fun a ha b hb z => ?_⟩, fun y hy => ?_⟩
  · simp at hb
    subst hb z
    exact h2 ha
  · rcases List.mem_append.mp hy with h3 | h3
    · exact h.low y h3
    · simp at h3
      subst h3
      exact h1
theorem NmL.nil : NmL [] := ⟨List.nodup_nil, fun x hx => by simp at hx⟩
end
end K41
set_option Elab.async false
set_option linter.all false
set_option maxRecDepth 100000
set_option maxHeartbeats 1000000
set_option pp.maxSteps 1200
namespace K41
open PySem PySem.Spec PyProof.Rows L2 Lv
section
variable {P : Program} {w : World} {K : PySem.W.Frag} {mg : Str → Option Value} {base : Heap} {ca : Nat → Addr}
abbrev s__law_name : Stmt := top 30
theorem sc__law_name : FnScope ["tray", "used", "letters", "lot", "letter", "name", "words", "old", "at", "some", "k", "one"] ["tray", "used"] (defScope s__law_name) := ⟨rfl, rfl, rfl, by decide +kernel, rfl, by decide +kernel, by decide +kernel⟩
inductive sp__law_nameA (ss : List S) (M : Mem) (P : K2) (Z : X2) : Prop
  | mk (p g : Addr) (n : Nat) (u : Addr) (us : List Str) (h0 : ss = [.a p, .a u]) (h1 : M u = some (.lst ((strsD us).map S.d))) (h2 : u ≠ p) (h3 : u ≠ g) (h4 : (∀ x, x ∈ us → lowN x)) (h5 : us.length < 26) (h6 : Ty M p g n) (h7 : n < 900000) (h8 : ∀ (nm : Str) (M' : Mem), lowN nm → nm ∉ us → Kp p g M M' → Ty M' p g (n + 14) → P (.s nm) M') : sp__law_nameA  ss M P Z
inductive sp__law_nameD (ss : List S) (M : Mem) (P : K2) (Z : X2) : Prop
  | mk (p g : Addr) (n : Nat) (us : List Str) (h0 : ss = [.a p, .d (.list (strsD us))]) (h1 : (∀ x, x ∈ us → lowN x)) (h2 : us.length < 26) (h3 : Ty M p g n) (h4 : n < 900000) (h5 : ∀ (nm : Str) (M' : Mem), lowN nm → nm ∉ us → Kp p g M M' → Ty M' p g (n + 14) → P (.s nm) M') : sp__law_nameD  ss M P Z
def sp__law_name : Sp2 := fun ss M P Z => sp__law_nameA ss M P Z ∨ sp__law_nameD ss M P Z
theorem fn_or2 {f : Addr} {fd : FuncData} {ps : List Str} {k : Nat} {sp sp' : Sp2} (a : FnOk2 P w K mg base k f fd ps sp) (b : FnOk2 P w K mg base k f fd ps sp') : FnOk2 P w K mg base k f fd ps (fun ss M Pq Z => sp ss M Pq Z ∨ sp' ss M Pq Z) := by
  refine ⟨fun vs H Q E h => ?_, fun A outer s H args us vs Q E gd hr he hb hv h => ?_⟩
  · obtain ⟨F, M, ss, Pq, Z, st, rp, h, cq, cz⟩ := h
    rcases h with h | h
    · exact a.len vs H Q E ⟨F, M, ss, Pq, Z, st, rp, h, cq, cz⟩
    · exact b.len vs H Q E ⟨F, M, ss, Pq, Z, st, rp, h, cq, cz⟩
  · obtain ⟨F, M, ss, Pq, Z, st, rp, h, cq, cz⟩ := h
    rcases h with h | h
    · exact a.run A outer s H args us vs Q E gd hr he hb hv ⟨F, M, ss, Pq, Z, st, rp, h, cq, cz⟩
    · exact b.run A outer s H args us vs Q E gd hr he hb hv ⟨F, M, ss, Pq, Z, st, rp, h, cq, cz⟩
theorem pickL {a b c : PyData} {r : Int} (h0 : 1 ≤ r) (h1 : r < 4) : ∃ x, atI [a, b, c] (r - 1) = some x ∧ (x = a ∨ x = b ∨ x = c) := by
  have : r = 1 ∨ r = 2 ∨ r = 3 := by omega
  rcases this with rfl | rfl | rfl
  · exact ⟨a, rfl, .inl rfl⟩
  · exact ⟨b, rfl, .inr (.inl rfl)⟩
  · exact ⟨c, rfl, .inr (.inr rfl)⟩
theorem ok__law_nameA {f : Addr} {fd : FuncData} (F : Fun K "_law_name" "_law_name" s__law_name f fd) (Z : Tx mg ca) (C__law_draw : Cal P w K mg base 1 "_law_draw" ["tray", "many"] sp__law_draw) : FnOk2 P w K mg base 2 f fd ["tray", "used"] sp__law_nameA := by
  refine fn2 F sc__law_name (fun ss M P Z h => ?_) (fun cdv A outer s H E cx => ?_)
  · obtain ⟨p, g, n, u, us, rfl, _⟩ := h; rfl
  · refine ⟨_, (qs_cons (qs_set 2 cx.nd qe_str)
    (qs_cons (qs_set 3 cx.nd (qe_call cx C__law_draw (by omega) rfl (qa_cons (qv 0) (qa_cons qe_int qa_nil))))
    (qs_cons (qs_set 4 cx.nd (qe_ix (qv 2) (qe_call cx C__law_draw (by omega) rfl (qa_cons (qv 0) (qa_cons qe_int qa_nil)))))
    (qs_cons (qs_set 5 cx.nd (qe_join qe_str (qe_lcE enD_ok cx (qi_rng1 rfl Z.z_range (qa_cons (qe_add qe_int (qe_call cx C__law_draw (by omega) rfl (qa_cons (qv 0) (qa_cons qe_int qa_nil)))) qa_nil)) (blkOk_by (own := [("k", 10)]) rfl) (fun _ _ _ _ _ => (qgn 10 cx.blk.nd)) (fun _ _ _ _ _ => qts_nil) (fun _ _ _ _ _ cx => (qe_ix (qv 2) (qe_call cx C__law_draw (by omega) rfl (qa_cons (qv 0) (qa_cons qe_int qa_nil))))))))
    (qs_consC (qs_if (qt_eq cx (qv 3) qe_int) (qs_cons (qs_set 6 cx.nd (qe_lst (qa_cons qe_str (qa_cons qe_str (qa_cons qe_str (qa_cons qe_str (qa_cons qe_str (qa_cons qe_str (qa_cons qe_str (qa_cons qe_str (qa_cons qe_str (qa_cons qe_str (qa_cons qe_str (qa_cons qe_str qa_nil))))))))))))))
    (qs_one (qs_set 5 cx.nd (qe_ix (qv 6) (qe_call cx C__law_draw (by omega) rfl (qa_cons (qv 0) (qa_cons qe_int qa_nil))))))) (qs_one (qs_if (qt_w (qw_and (qt_gt (qv 3) qe_int) (qw_and1 (qt_ne cx (qv 1) (qe_lst qa_nil))))) (qs_cons (qs_set 7 cx.nd (qe_ix (qv 1) (qe_call cx C__law_draw (by omega) rfl (qa_cons (qv 0) (qa_cons (qe_len rfl Z.z_len (qa_cons (qv 1) qa_nil)) qa_nil)))))
    (qs_cons (qs_set 8 cx.nd (qe_call cx C__law_draw (by omega) rfl (qa_cons (qv 0) (qa_cons (qe_add (qe_len rfl Z.z_len (qa_cons (qv 7) qa_nil)) qe_int) qa_nil))))
    (qs_one (qs_set 5 cx.nd (qe_sl (qe_add (qe_add (qe_sl (qv 7) qo_none (qo_some (qv 8))) (qe_ix (qe_lst (qa_cons (qv 4) (qa_cons (qv 4) (qa_cons qe_str qa_nil)))) (qe_sub (qv 3) qe_int))) (qe_sl (qv 7) (qo_some (qe_add (qv 8) (qe_ix (qe_lst (qa_cons qe_int (qa_cons qe_int (qa_cons qe_int qa_nil)))) (qe_sub (qv 3) qe_int)))) qo_none)) qo_none (qo_some qe_int)))))) qs_nil)))
    (qs_cons (qs_set 9 cx.nd (qe_add (qe_add (qe_add (qe_lst (qa_cons (qv 5) qa_nil)) (qe_lcE enD_ok cx (qi_seq (qv 2)) (blkOk_by (own := [("one", 11)]) rfl) (fun _ _ _ _ _ => (qgn 11 cx.blk.nd)) (fun _ _ _ _ _ => qts_nil) (fun _ _ _ _ _ cx => (qv 11)))) (qe_lcE enD_ok cx (qi_seq (qv 2)) (blkOk_by (own := [("one", 11)]) rfl) (fun _ _ _ _ _ => (qgn 11 cx.blk.nd)) (fun _ _ _ _ _ => qts_nil) (fun _ _ _ _ _ cx => (qe_mulS (qv 11) qe_int)))) (qe_lcE enD_ok cx (qi_seq (qv 2)) (blkOk_by (own := [("one", 11)]) rfl) (fun _ _ _ _ _ => (qgn 11 cx.blk.nd)) (fun _ _ _ _ _ => qts_nil) (fun _ _ _ _ _ cx => (qe_mulS (qv 11) qe_int)))))
    (qs_one (qs_ret (qe_ix (qe_lcE enD_ok cx (qi_seq (qv 9)) (blkOk_by (own := [("one", 11)]) rfl) (fun _ _ _ _ _ => (qgn 11 cx.blk.nd)) (fun _ _ _ _ _ => (qts_one (qt_w (qw_and (qt_ne cx.blk (qv 11) qe_str) (qw_and1 (qt_notin cx.blk (qv 11) (qv 1))))))) (fun _ _ _ _ _ cx => (qv 11))) qe_int))))))))), ?_⟩
    rintro ss M Pq Z ⟨p, g, n, u, us, rfl, hm, up, ug, hlow, hl, dk, hn, k⟩
    have stay : ∀ M', Kp p g M M' → DL M' (.a u) (strsD us) := fun M' kp => DL.of (kp _ _ hm up ug)
    have z8 : 1000 ≤ sizeLine := by decide
    refine ⟨p, g, 5, n, rfl, by omega, by omega, dk, by omega, fun r5 M1 a0 a1 kp1 dk1 => ?_⟩
    refine ⟨p, g, 26, _, rfl, by omega, by omega, dk1, by omega, fun r26 M2 b0 b1 kp2 dk2 => ?_⟩
    obtain ⟨lc, hlc, mlc⟩ := atI_some (xs := cs26) b0 (by rw [cs26_len]; exact b1)
    refine ⟨by decide +kernel, lc, hlc, ⟨_, rfl⟩, p, g, 8, _, rfl, by omega, by omega, dk2, by omega, fun r8 M3 c0 c1 kp3 dk3 => ⟨by omega, by omega, ?_⟩⟩
    have kp13 := (kp1.trans kp2).trans kp3
    refine lcL (List.range (1 + r8).toNat) (fun i => .i (0 + (i : Int))) (fun dn acc M' => Kp p g M M' ∧ Ty M' p g (n + 3 + dn.length) ∧ ∃ ys : List Str, acc = (strsD ys).map S.d ∧ ys.length = dn.length ∧ ∀ y, y ∈ ys → ∃ c, c ∈ cs26 ∧ y = ⟨#[c]⟩) rfl (by rw [List.length_range]; exact size_le (m := 63) (by omega))
      ⟨kp13, dk3, [], rfl, rfl, fun y hy => by simp at hy⟩ (fun _ _ _ _ => trivial) ?_ ?_
    · rintro dn i rest acc M' e ⟨kp, dk', ys, rfl, hy, hc⟩
      have dnl : dn.length < (1 + r8).toNat := by
        have h := congrArg List.length e
        rw [List.length_range, List.length_append, List.length_cons] at h
        omega
      refine ⟨p, g, 26, _, rfl, by omega, by omega, dk', by omega, fun r M4 d0 d1 kp4 dk4 => ?_⟩
      obtain ⟨c, hc1, hm⟩ := atI_some (xs := cs26) d0 (by rw [cs26_len]; exact d1)
      refine ⟨by decide +kernel, c, hc1, kp.trans kp4, dk4.grow (by rw [List.length_append]; simp; omega), ys ++ [⟨#[c]⟩], ?_, by rw [List.length_append, List.length_append, hy]; rfl, fun y hy' => ?_⟩
      · unfold strsD
        rw [List.map_append, List.map_append]
        rfl
      · rcases List.mem_append.mp hy' with h3 | h3
        · exact hc y h3
        · simp at h3
          exact ⟨c, hm, h3⟩
    rintro acc M4 ⟨kp, dk', ys, rfl, hy, hc⟩
    rw [List.length_range] at hy dk'
    refine ⟨strsD ys, rfl, ys, .inl (.inl rfl), by rw [ones_sum hc]; show ys.length + ys.length * 0 ≤ _; omega, ?_⟩
    obtain ⟨j1, j2⟩ := low_join hc (by omega) (by omega)
    have dk4 := dk'.grow (m := n + 11) (by omega)
    refine ⟨fun ρ M' => ∃ (nm : Str) (a6 a7 a8 : Option S), ρ = [some (.a p), some (.a u), some (.s "abcdefghijklmnopqrstuvwxyz"), some (.i r5), some (.s ⟨#[lc]⟩), some (.s nm), a6, a7, a8, none, none, none] ∧ lowC nm ∧ nm.length ≤ 8 ∧ Kp p g M M' ∧ Ty M' p g (n + 14), ?_, ?_⟩
    · refine byB (fun h4 => ?_) (fun h4 => ?_) <;> rw [eqv_int] at h4
      · refine ⟨p, g, 12, _, rfl, by omega, by omega, dk4, by omega, fun r M5 d0 d1 kp5 dk5 => ?_⟩
        obtain ⟨x, hx, hm⟩ := atI_some (xs := strsD words12b) d0 (show r < 12 from d1)
        obtain ⟨wd, hwd, rfl⟩ := List.mem_map.mp hm
        obtain ⟨w1, w2⟩ := words12b_low wd hwd
        exact ⟨_, hx, wd, _, _, _, rfl, w1, w2, kp.trans kp5, dk5.grow (by omega)⟩
      · have h4 := of_decide_eq_false h4
        have same : ∃ (nm : Str) (a6 a7 a8 : Option S), [some (.a p), some (.a u), some (.s "abcdefghijklmnopqrstuvwxyz"), some (.i r5), some (.s ⟨#[lc]⟩), some (.s (Txt.join "" ys)), none, none, none, none, none, none] = [some (.a p), some (.a u), some (.s "abcdefghijklmnopqrstuvwxyz"), some (.i r5), some (.s ⟨#[lc]⟩), some (.s nm), a6, a7, a8, none, none, none] ∧ lowC nm ∧ nm.length ≤ 8 ∧ Kp p g M M4 ∧ Ty M4 p g (n + 14) :=
          ⟨_, _, _, _, rfl, j1, j2, kp, dk4.grow (by omega)⟩
        refine byB (fun h0 => ?_) (fun _ => same)
        have h0 := of_decide_eq_true h0
        refine ⟨_, _, .inr ⟨u, _, rfl, kp _ _ hm up ug, rfl⟩, .inl rfl, depth_nil _, ?_⟩
        refine byB (fun hne => ?_) (fun _ => same)
        rw [eqv_nil] at hne
        have hus : 0 < us.length := by
          cases us with
          | nil => cases hne
          | cons _ _ => simp
        have el : ((strsD us).map S.d).length = us.length := by rw [List.length_map, strsD, List.length_map]
        refine ⟨_, lenOf_of (kp _ _ hm up ug), p, g, us.length, _, by rw [el], by omega, by omega, dk4, by omega, fun ru M5 e0 e1 kp5 dk5 => ?_⟩
        have hold : ∃ old, atI (strsD us) ru = some (.str old) ∧ old ∈ us := by
          obtain ⟨x, hx, hm⟩ := atI_some (xs := strsD us) e0 (by rw [strsD, List.length_map]; exact e1)
          obtain ⟨old, ho, rfl⟩ := List.mem_map.mp hm
          exact ⟨old, hx, ho⟩
        obtain ⟨old, ho, hom⟩ := hold
        obtain ⟨o1, o2, o3⟩ := hlow old hom
        refine ⟨_, .s old, (kp.trans kp5) _ _ hm up ug, by rw [atI_map, ho]; rfl, ?_⟩
        refine ⟨by omega, p, g, (old.length : Int) + 1, _, rfl, by omega, by omega, dk5, by omega, fun ra M6 f0 f1 kp6 dk6 => ?_⟩
        obtain ⟨x1, q1, q2⟩ := pickL (a := .str ⟨#[lc]⟩) (b := .str ⟨#[lc]⟩) (c := .str "") (r := r5) (by omega) (by omega)
        obtain ⟨e2, he2, le2, ll2⟩ : ∃ e2 : Str, x1 = .str e2 ∧ lowC e2 ∧ e2.length ≤ 1 := by
          rcases q2 with rfl | rfl | rfl
          · exact ⟨_, rfl, lowC_one mlc, Nat.le_refl _⟩
          · exact ⟨_, rfl, lowC_one mlc, Nat.le_refl _⟩
          · exact ⟨_, rfl, lowC_empty, by decide +kernel⟩
        subst he2
        obtain ⟨x3, q3, q4⟩ := pickL (a := .int 0) (b := .int 1) (c := .int 1) (r := r5) (by omega) (by omega)
        obtain ⟨jj, hjj⟩ : ∃ jj : Int, x3 = .int jj := by
          rcases q4 with rfl | rfl | rfl <;> exact ⟨_, rfl⟩
        subst hjj
        have s1 := cut_len old none (some ra)
        have s3 := cut_len old (some (ra + jj)) none
        have len_add : ∀ a b : Str, (a ++ b).length = a.length + b.length := fun a b => by
          show (a.cps ++ b.cps).size = _
          rw [Array.size_append]
          rfl
        refine ⟨by omega, _, q1, by omega, _, q3, by omega, by rw [len_add]; omega, by rw [len_add, len_add]; omega, ?_⟩
        exact ⟨_, _, _, _, rfl, lowC_cut (lowC_add (lowC_add (lowC_cut o3 _ _) le2) (lowC_cut o3 _ _)) _ _, cut8 _, (kp.trans kp5).trans kp6, dk6.grow (by omega)⟩
    · rintro ρ M5 ⟨nm, a6, a7, a8, rfl, n1, n2, kp5, dk5⟩
      have zs : ∀ n : Nat, n ≤ 200 → n ≤ sizeLine := fun n h => Nat.le_trans h (by decide)
      have l26 := cs26_len
      refine ⟨_, rfl, lc_mapL cs26 (fun c => .s ⟨#[c]⟩) (fun c => .str ⟨#[c]⟩) rfl (by rw [l26]; decide) rfl (fun c hc Q q => q) ?_⟩
      refine ⟨_, _, .inl rfl, .inl rfl, zs _ (by simp [cs26_len]), ?_⟩
      refine ⟨_, rfl, lc_mapL cs26 (fun c => .s ⟨#[c]⟩) (fun c => .str (repS ⟨#[c]⟩ 3)) rfl (by rw [l26]; decide) rfl (fun c hc Q q => ⟨by decide, by decide, Nat.le_refl 1, (by decide : 1 ≤ 1000), q⟩) ?_⟩
      refine ⟨_, _, .inl rfl, .inl rfl, zs _ (by simp [cs26_len]), ?_⟩
      refine ⟨_, rfl, lc_mapL cs26 (fun c => .s ⟨#[c]⟩) (fun c => .str (repS ⟨#[c]⟩ 5)) rfl (by rw [l26]; decide) rfl (fun c hc Q q => ⟨by decide, by decide, Nat.le_refl 1, (by decide : 1 ≤ 1000), q⟩) ?_⟩
      refine ⟨_, _, .inl rfl, .inl rfl, zs _ (by simp [cs26_len]), ?_⟩
      have e79 : (some79 nm).map PyData.str = [PyData.str nm] ++ cs26.map (fun c => PyData.str ⟨#[c]⟩) ++ cs26.map (fun c => PyData.str (repS ⟨#[c]⟩ 3)) ++ cs26.map (fun c => PyData.str (repS ⟨#[c]⟩ 5)) := by
        unfold some79
        rw [List.map_append, List.map_append, List.map_append, List.map_map, List.map_map, List.map_map]
        rfl
      have l79 : (some79 nm).length = 79 := by
        unfold some79
        rw [List.length_append, List.length_append, List.length_append, List.length_map, List.length_map, List.length_map, l26]
        rfl
      refine ⟨_, rfl, lc_keepL (some79 nm) (fun x => .s x) (fun x => .str x) (fun (x : Str) => decide (x ≠ ("" : Str)) && !decide (x ∈ us)) (by rw [← e79, List.map_map]; rfl) (by rw [l79]; decide) rfl (fun x hx Q R h1 h2 => ?_) ?_⟩
      · refine byB (fun h => ?_) (fun h => ?_) <;> rw [eqv_str] at h
        · have hx2 : decide (x ≠ ("" : Str)) = true := by simpa using h
          rw [hx2, Bool.true_and] at h1 h2
          refine ⟨_, strsD us, .inl rfl, .inl (stay M5 kp5), depth_str _, ?_⟩
          rw [in_strs]
          exact byB h1 h2
        · have hx2 : decide (x ≠ ("" : Str)) = false := by simpa using h
          rw [hx2, Bool.false_and] at h2
          exact h2 rfl
      · obtain ⟨x, r, e, m1, m2, m3⟩ := some79_free (name := nm) hl
        obtain ⟨w1, w2⟩ := some79_low n1 n2 x m1
        rw [e]
        exact ⟨_, atI_zero _ _, k x M5 ⟨w2, len_pos m2, w1⟩ m3 kp5 dk5⟩
theorem ok__law_nameD {f : Addr} {fd : FuncData} (F : Fun K "_law_name" "_law_name" s__law_name f fd) (Z : Tx mg ca) (C__law_draw : Cal P w K mg base 1 "_law_draw" ["tray", "many"] sp__law_draw) : FnOk2 P w K mg base 2 f fd ["tray", "used"] sp__law_nameD := by
  refine fn2 F sc__law_name (fun ss M P Z h => ?_) (fun cdv A outer s H E cx => ?_)
  · obtain ⟨p, g, n, us, rfl, _⟩ := h; rfl
  · refine ⟨_, (qs_cons (qs_set 2 cx.nd qe_str)
    (qs_cons (qs_set 3 cx.nd (qe_call cx C__law_draw (by omega) rfl (qa_cons (qv 0) (qa_cons qe_int qa_nil))))
    (qs_cons (qs_set 4 cx.nd (qe_ix (qv 2) (qe_call cx C__law_draw (by omega) rfl (qa_cons (qv 0) (qa_cons qe_int qa_nil)))))
    (qs_cons (qs_set 5 cx.nd (qe_join qe_str (qe_lcE enD_ok cx (qi_rng1 rfl Z.z_range (qa_cons (qe_add qe_int (qe_call cx C__law_draw (by omega) rfl (qa_cons (qv 0) (qa_cons qe_int qa_nil)))) qa_nil)) (blkOk_by (own := [("k", 10)]) rfl) (fun _ _ _ _ _ => (qgn 10 cx.blk.nd)) (fun _ _ _ _ _ => qts_nil) (fun _ _ _ _ _ cx => (qe_ix (qv 2) (qe_call cx C__law_draw (by omega) rfl (qa_cons (qv 0) (qa_cons qe_int qa_nil))))))))
    (qs_consC (qs_if (qt_eq cx (qv 3) qe_int) (qs_cons (qs_set 6 cx.nd (qe_lst (qa_cons qe_str (qa_cons qe_str (qa_cons qe_str (qa_cons qe_str (qa_cons qe_str (qa_cons qe_str (qa_cons qe_str (qa_cons qe_str (qa_cons qe_str (qa_cons qe_str (qa_cons qe_str (qa_cons qe_str qa_nil))))))))))))))
    (qs_one (qs_set 5 cx.nd (qe_ix (qv 6) (qe_call cx C__law_draw (by omega) rfl (qa_cons (qv 0) (qa_cons qe_int qa_nil))))))) (qs_one (qs_if (qt_w (qw_and (qt_gt (qv 3) qe_int) (qw_and1 (qt_ne cx (qv 1) (qe_lst qa_nil))))) (qs_cons (qs_set 7 cx.nd (qe_ix (qv 1) (qe_call cx C__law_draw (by omega) rfl (qa_cons (qv 0) (qa_cons (qe_len rfl Z.z_len (qa_cons (qv 1) qa_nil)) qa_nil)))))
    (qs_cons (qs_set 8 cx.nd (qe_call cx C__law_draw (by omega) rfl (qa_cons (qv 0) (qa_cons (qe_add (qe_len rfl Z.z_len (qa_cons (qv 7) qa_nil)) qe_int) qa_nil))))
    (qs_one (qs_set 5 cx.nd (qe_sl (qe_add (qe_add (qe_sl (qv 7) qo_none (qo_some (qv 8))) (qe_ix (qe_lst (qa_cons (qv 4) (qa_cons (qv 4) (qa_cons qe_str qa_nil)))) (qe_sub (qv 3) qe_int))) (qe_sl (qv 7) (qo_some (qe_add (qv 8) (qe_ix (qe_lst (qa_cons qe_int (qa_cons qe_int (qa_cons qe_int qa_nil)))) (qe_sub (qv 3) qe_int)))) qo_none)) qo_none (qo_some qe_int)))))) qs_nil)))
    (qs_cons (qs_set 9 cx.nd (qe_add (qe_add (qe_add (qe_lst (qa_cons (qv 5) qa_nil)) (qe_lcE enD_ok cx (qi_seq (qv 2)) (blkOk_by (own := [("one", 11)]) rfl) (fun _ _ _ _ _ => (qgn 11 cx.blk.nd)) (fun _ _ _ _ _ => qts_nil) (fun _ _ _ _ _ cx => (qv 11)))) (qe_lcE enD_ok cx (qi_seq (qv 2)) (blkOk_by (own := [("one", 11)]) rfl) (fun _ _ _ _ _ => (qgn 11 cx.blk.nd)) (fun _ _ _ _ _ => qts_nil) (fun _ _ _ _ _ cx => (qe_mulS (qv 11) qe_int)))) (qe_lcE enD_ok cx (qi_seq (qv 2)) (blkOk_by (own := [("one", 11)]) rfl) (fun _ _ _ _ _ => (qgn 11 cx.blk.nd)) (fun _ _ _ _ _ => qts_nil) (fun _ _ _ _ _ cx => (qe_mulS (qv 11) qe_int)))))
    (qs_one (qs_ret (qe_ix (qe_lcE enD_ok cx (qi_seq (qv 9)) (blkOk_by (own := [("one", 11)]) rfl) (fun _ _ _ _ _ => (qgn 11 cx.blk.nd)) (fun _ _ _ _ _ => (qts_one (qt_w (qw_and (qt_ne cx.blk (qv 11) qe_str) (qw_and1 (qt_notin cx.blk (qv 11) (qv 1))))))) (fun _ _ _ _ _ cx => (qv 11))) qe_int))))))))), ?_⟩
    rintro ss M Pq Z ⟨p, g, n, us, rfl, hlow, hl, dk, hn, k⟩
    have stay : ∀ M', Kp p g M M' → DL M' (.d (.list (strsD us))) (strsD us) := fun M' kp => .inl rfl
    have z8 : 1000 ≤ sizeLine := by decide
    refine ⟨p, g, 5, n, rfl, by omega, by omega, dk, by omega, fun r5 M1 a0 a1 kp1 dk1 => ?_⟩
    refine ⟨p, g, 26, _, rfl, by omega, by omega, dk1, by omega, fun r26 M2 b0 b1 kp2 dk2 => ?_⟩
    obtain ⟨lc, hlc, mlc⟩ := atI_some (xs := cs26) b0 (by rw [cs26_len]; exact b1)
    refine ⟨by decide +kernel, lc, hlc, ⟨_, rfl⟩, p, g, 8, _, rfl, by omega, by omega, dk2, by omega, fun r8 M3 c0 c1 kp3 dk3 => ⟨by omega, by omega, ?_⟩⟩
    have kp13 := (kp1.trans kp2).trans kp3
    refine lcL (List.range (1 + r8).toNat) (fun i => .i (0 + (i : Int))) (fun dn acc M' => Kp p g M M' ∧ Ty M' p g (n + 3 + dn.length) ∧ ∃ ys : List Str, acc = (strsD ys).map S.d ∧ ys.length = dn.length ∧ ∀ y, y ∈ ys → ∃ c, c ∈ cs26 ∧ y = ⟨#[c]⟩) rfl (by rw [List.length_range]; exact size_le (m := 63) (by omega))
      ⟨kp13, dk3, [], rfl, rfl, fun y hy => by simp at hy⟩ (fun _ _ _ _ => trivial) ?_ ?_
    · rintro dn i rest acc M' e ⟨kp, dk', ys, rfl, hy, hc⟩
      have dnl : dn.length < (1 + r8).toNat := by
        have h := congrArg List.length e
        rw [List.length_range, List.length_append, List.length_cons] at h
        omega
      refine ⟨p, g, 26, _, rfl, by omega, by omega, dk', by omega, fun r M4 d0 d1 kp4 dk4 => ?_⟩
      obtain ⟨c, hc1, hm⟩ := atI_some (xs := cs26) d0 (by rw [cs26_len]; exact d1)
      refine ⟨by decide +kernel, c, hc1, kp.trans kp4, dk4.grow (by rw [List.length_append]; simp; omega), ys ++ [⟨#[c]⟩], ?_, by rw [List.length_append, List.length_append, hy]; rfl, fun y hy' => ?_⟩
      · unfold strsD
        rw [List.map_append, List.map_append]
        rfl
      · rcases List.mem_append.mp hy' with h3 | h3
        · exact hc y h3
        · simp at h3
          exact ⟨c, hm, h3⟩
    rintro acc M4 ⟨kp, dk', ys, rfl, hy, hc⟩
    rw [List.length_range] at hy dk'
    refine ⟨strsD ys, rfl, ys, .inl (.inl rfl), by rw [ones_sum hc]; show ys.length + ys.length * 0 ≤ _; omega, ?_⟩
    obtain ⟨j1, j2⟩ := low_join hc (by omega) (by omega)
    have dk4 := dk'.grow (m := n + 11) (by omega)
    refine ⟨fun ρ M' => ∃ (nm : Str) (a6 a7 a8 : Option S), ρ = [some (.a p), some (.d (.list (strsD us))), some (.s "abcdefghijklmnopqrstuvwxyz"), some (.i r5), some (.s ⟨#[lc]⟩), some (.s nm), a6, a7, a8, none, none, none] ∧ lowC nm ∧ nm.length ≤ 8 ∧ Kp p g M M' ∧ Ty M' p g (n + 14), ?_, ?_⟩
    · refine byB (fun h4 => ?_) (fun h4 => ?_) <;> rw [eqv_int] at h4
      · refine ⟨p, g, 12, _, rfl, by omega, by omega, dk4, by omega, fun r M5 d0 d1 kp5 dk5 => ?_⟩
        obtain ⟨x, hx, hm⟩ := atI_some (xs := strsD words12b) d0 (show r < 12 from d1)
        obtain ⟨wd, hwd, rfl⟩ := List.mem_map.mp hm
        obtain ⟨w1, w2⟩ := words12b_low wd hwd
        exact ⟨_, hx, wd, _, _, _, rfl, w1, w2, kp.trans kp5, dk5.grow (by omega)⟩
      · have h4 := of_decide_eq_false h4
        have same : ∃ (nm : Str) (a6 a7 a8 : Option S), [some (.a p), some (.d (.list (strsD us))), some (.s "abcdefghijklmnopqrstuvwxyz"), some (.i r5), some (.s ⟨#[lc]⟩), some (.s (Txt.join "" ys)), none, none, none, none, none, none] = [some (.a p), some (.d (.list (strsD us))), some (.s "abcdefghijklmnopqrstuvwxyz"), some (.i r5), some (.s ⟨#[lc]⟩), some (.s nm), a6, a7, a8, none, none, none] ∧ lowC nm ∧ nm.length ≤ 8 ∧ Kp p g M M4 ∧ Ty M4 p g (n + 14) :=
          ⟨_, _, _, _, rfl, j1, j2, kp, dk4.grow (by omega)⟩
        refine byB (fun h0 => ?_) (fun _ => same)
        have h0 := of_decide_eq_true h0
        refine ⟨_, _, .inl rfl, .inl rfl, depth_nil _, ?_⟩
        refine byB (fun hne => ?_) (fun _ => same)
        rw [eqv_nil] at hne
        have hus : 0 < us.length := by
          cases us with
          | nil => cases hne
          | cons _ _ => simp
        have el : (strsD us).length = us.length := List.length_map _
        refine ⟨_, rfl, p, g, us.length, _, by rw [el], by omega, by omega, dk4, by omega, fun ru M5 e0 e1 kp5 dk5 => ?_⟩
        have hold : ∃ old, atI (strsD us) ru = some (.str old) ∧ old ∈ us := by
          obtain ⟨x, hx, hm⟩ := atI_some (xs := strsD us) e0 (by rw [strsD, List.length_map]; exact e1)
          obtain ⟨old, ho, rfl⟩ := List.mem_map.mp hm
          exact ⟨old, hx, ho⟩
        obtain ⟨old, ho, hom⟩ := hold
        obtain ⟨o1, o2, o3⟩ := hlow old hom
        refine ⟨.str old, ho, ?_⟩
        refine ⟨by omega, p, g, (old.length : Int) + 1, _, rfl, by omega, by omega, dk5, by omega, fun ra M6 f0 f1 kp6 dk6 => ?_⟩
        obtain ⟨x1, q1, q2⟩ := pickL (a := .str ⟨#[lc]⟩) (b := .str ⟨#[lc]⟩) (c := .str "") (r := r5) (by omega) (by omega)
        obtain ⟨e2, he2, le2, ll2⟩ : ∃ e2 : Str, x1 = .str e2 ∧ lowC e2 ∧ e2.length ≤ 1 := by
          rcases q2 with rfl | rfl | rfl
          · exact ⟨_, rfl, lowC_one mlc, Nat.le_refl _⟩
          · exact ⟨_, rfl, lowC_one mlc, Nat.le_refl _⟩
          · exact ⟨_, rfl, lowC_empty, by decide +kernel⟩
        subst he2
        obtain ⟨x3, q3, q4⟩ := pickL (a := .int 0) (b := .int 1) (c := .int 1) (r := r5) (by omega) (by omega)
        obtain ⟨jj, hjj⟩ : ∃ jj : Int, x3 = .int jj := by
          rcases q4 with rfl | rfl | rfl <;> exact ⟨_, rfl⟩
        subst hjj
        have s1 := cut_len old none (some ra)
        have s3 := cut_len old (some (ra + jj)) none
        have len_add : ∀ a b : Str, (a ++ b).length = a.length + b.length := fun a b => by
          show (a.cps ++ b.cps).size = _
          rw [Array.size_append]
          rfl
        refine ⟨by omega, _, q1, by omega, _, q3, by omega, by rw [len_add]; omega, by rw [len_add, len_add]; omega, ?_⟩
        exact ⟨_, _, _, _, rfl, lowC_cut (lowC_add (lowC_add (lowC_cut o3 _ _) le2) (lowC_cut o3 _ _)) _ _, cut8 _, (kp.trans kp5).trans kp6, dk6.grow (by omega)⟩
    · rintro ρ M5 ⟨nm, a6, a7, a8, rfl, n1, n2, kp5, dk5⟩
      have zs : ∀ n : Nat, n ≤ 200 → n ≤ sizeLine := fun n h => Nat.le_trans h (by decide)
      have l26 := cs26_len
      refine ⟨_, rfl, lc_mapL cs26 (fun c => .s ⟨#[c]⟩) (fun c => .str ⟨#[c]⟩) rfl (by rw [l26]; decide) rfl (fun c hc Q q => q) ?_⟩
      refine ⟨_, _, .inl rfl, .inl rfl, zs _ (by simp [cs26_len]), ?_⟩
      refine ⟨_, rfl, lc_mapL cs26 (fun c => .s ⟨#[c]⟩) (fun c => .str (repS ⟨#[c]⟩ 3)) rfl (by rw [l26]; decide) rfl (fun c hc Q q => ⟨by decide, by decide, Nat.le_refl 1, (by decide : 1 ≤ 1000), q⟩) ?_⟩
      refine ⟨_, _, .inl rfl, .inl rfl, zs _ (by simp [cs26_len]), ?_⟩
      refine ⟨_, rfl, lc_mapL cs26 (fun c => .s ⟨#[c]⟩) (fun c => .str (repS ⟨#[c]⟩ 5)) rfl (by rw [l26]; decide) rfl (fun c hc Q q => ⟨by decide, by decide, Nat.le_refl 1, (by decide : 1 ≤ 1000), q⟩) ?_⟩
      refine ⟨_, _, .inl rfl, .inl rfl, zs _ (by simp [cs26_len]), ?_⟩
      have e79 : (some79 nm).map PyData.str = [PyData.str nm] ++ cs26.map (fun c => PyData.str ⟨#[c]⟩) ++ cs26.map (fun c => PyData.str (repS ⟨#[c]⟩ 3)) ++ cs26.map (fun c => PyData.str (repS ⟨#[c]⟩ 5)) := by
        unfold some79
        rw [List.map_append, List.map_append, List.map_append, List.map_map, List.map_map, List.map_map]
        rfl
      have l79 : (some79 nm).length = 79 := by
        unfold some79
        rw [List.length_append, List.length_append, List.length_append, List.length_map, List.length_map, List.length_map, l26]
        rfl
      refine ⟨_, rfl, lc_keepL (some79 nm) (fun x => .s x) (fun x => .str x) (fun (x : Str) => decide (x ≠ ("" : Str)) && !decide (x ∈ us)) (by rw [← e79, List.map_map]; rfl) (by rw [l79]; decide) rfl (fun x hx Q R h1 h2 => ?_) ?_⟩
      · refine byB (fun h => ?_) (fun h => ?_) <;> rw [eqv_str] at h
        · have hx2 : decide (x ≠ ("" : Str)) = true := by simpa using h
          rw [hx2, Bool.true_and] at h1 h2
          refine ⟨_, strsD us, .inl rfl, .inl (stay M5 kp5), depth_str _, ?_⟩
          rw [in_strs]
          exact byB h1 h2
        · have hx2 : decide (x ≠ ("" : Str)) = false := by simpa using h
          rw [hx2, Bool.false_and] at h2
          exact h2 rfl
      · obtain ⟨x, r, e, m1, m2, m3⟩ := some79_free (name := nm) hl
        obtain ⟨w1, w2⟩ := some79_low n1 n2 x m1
        rw [e]
        exact ⟨_, atI_zero _ _, k x M5 ⟨w2, len_pos m2, w1⟩ m3 kp5 dk5⟩
theorem ok__law_name {f : Addr} {fd : FuncData} (F : Fun K "_law_name" "_law_name" s__law_name f fd) (Z : Tx mg ca) (C__law_draw : Cal P w K mg base 1 "_law_draw" ["tray", "many"] sp__law_draw) : FnOk2 P w K mg base 2 f fd ["tray", "used"] sp__law_name := fn_or2 (ok__law_nameA F Z C__law_draw) (ok__law_nameD F Z C__law_draw)
end
end K41
set_option Elab.async false
set_option linter.all false
set_option maxRecDepth 100000
set_option maxHeartbeats 1000000
set_option pp.maxSteps 1200
namespace K41
open PySem PySem.Spec PyProof.Rows L2 Lv
section
variable {P : Program} {w : World} {K : PySem.W.Frag} {mg : Str → Option Value} {base : Heap} {ca : Nat → Addr}
abbrev s__law_names : Stmt := top 31
theorem sc__law_names : FnScope ["tray", "many", "found", "k"] ["tray", "many"] (defScope s__law_names) := ⟨rfl, rfl, rfl, by decide +kernel, rfl, by decide +kernel, by decide +kernel⟩
inductive sp__law_names (ss : List S) (M : Mem) (P : K2) (Z : X2) : Prop
  | mk (p g : Addr) (many : Int) (n : Nat) (h0 : ss = [.a p, .i many]) (h1 : 0 ≤ many) (h2 : many ≤ 20) (h3 : Ty M p g n) (h4 : n < 800000) (h5 : ∀ (nms : List Str) (M' : Mem), NmL nms → nms.length = many.toNat → Kp p g M M' → Ty M' p g (n + 14 * many.toNat) → P (.d (.list (strsD nms))) M') : sp__law_names  ss M P Z
theorem ok__law_names {f : Addr} {fd : FuncData} (F : Fun K "_law_names" "_law_names" s__law_names f fd) (Z : Tx mg ca) (C__law_name : Cal P w K mg base 2 "_law_name" ["tray", "used"] sp__law_name) : FnOk2 P w K mg base 3 f fd ["tray", "many"] sp__law_names := by
  refine fn2 F sc__law_names (fun ss M P Z h => ?_) (fun cdv A outer s H E cx => ?_)
  · obtain ⟨p, g, many, n, rfl, _⟩ := h; rfl
  · refine ⟨_, (qs_cons (qs_set 2 cx.nd (qe_lstM qa_nil))
    (qs_cons (qs_for cx (qi_rng1 rfl Z.z_range (qa_cons (qv 1) qa_nil)) (qgn 3 cx.nd)
    (qs_one (qs_expr (qe_append (qv 2) (qa_cons (qe_call cx C__law_name (by omega) rfl (qa_cons (qv 0) (qa_cons (qv 2) qa_nil))) qa_nil)))))
    (qs_one (qs_ret (qe_frz (qv 2)))))), ?_⟩
    rintro ss M Pq Z ⟨p, g, many, n, rfl, m0, m1, dk, hn, k⟩
    intro u hu
    have up : u ≠ p := (ne_of_none dk.sp hu).symm
    have ug : u ≠ g := (ne_of_none dk.sg hu).symm
    refine ⟨by omega, by omega, forL (List.range many.toNat) (fun i => .i (0 + (i : Int))) (fun dn ρ M' => Kp p g M M' ∧ Ty M' p g (n + 14 * dn.length) ∧ ∃ (nms : List Str) (c : Option S), ρ = [some (.a p), some (.i many), some (.a u), c] ∧ M' u = some (.lst ((strsD nms).map S.d)) ∧ nms.length = dn.length ∧ NmL nms) rfl
      ⟨Kp.refl.put hu, dk.put hu, [], none, rfl, mput_same, rfl, NmL.nil⟩ (fun _ _ _ _ => trivial) ?_ ?_⟩
    · rintro dn i rest ρ M' e ⟨kp, dk', nms, c, rfl, hm, hl, ok⟩
      have dnl : dn.length < many.toNat := by
        have h := congrArg List.length e
        rw [List.length_range, List.length_append, List.length_cons] at h
        omega
      refine ⟨isL_of hm, .inl ⟨p, g, _, u, nms, rfl, hm, up, ug, ok.low, by omega, dk', by omega, fun nm M2 h1 h2 kp2 dk2 => ?_⟩⟩
      have hm2 := kp2 u _ hm up ug
      refine ⟨_, hm2, ?_, (kp.trans kp2).put hu, (dk2.putne up.symm ug.symm).grow (by rw [List.length_append]; simp; omega), nms ++ [nm], _, rfl, by rw [mput_same, strsD_snoc], by rw [List.length_append, List.length_append, hl]; rfl, ok.snoc h1 h2⟩
      rw [List.length_map, strsD, List.length_map]
      exact size_le (m := 63) (by omega)
    · rintro ρ M' ⟨kp, dk', nms, c, rfl, hm, hl, ok⟩
      rw [List.length_range] at hl dk'
      exact ⟨u, _, rfl, hm, k nms _ ok hl (kp.del hu) (dk'.delne up.symm ug.symm)⟩
def ways5 : List Str := ["day", "day", "first", "last", "before"]
structure PartGood (q : Part) : Prop where
  ok : NmsOk (q.2.map (·.1))
  len : q.2.length ≤ 5
  ways : ∀ a, a ∈ q.2 → a.2 ∈ ways5
structure PlanGood (ps : List Part) (ms : List Str) : Prop where
  ok : NmsOk (ps.map (·.1))
  some : 1 ≤ ps.length
  few : ps.length ≤ 4
  parts : ∀ q, q ∈ ps → PartGood q
  mok : NmsOk ms
  mfew : ms.length ≤ 4
theorem nm_len {x : Str} (h : nmB x = true) : x.length ≤ 8 := by
  unfold nmB at h
  simp only [Bool.and_eq_true, decide_eq_true_eq] at h
  exact h.1.2
theorem PlanGood.sm {ps : List Part} {ms : List Str} (h : PlanGood ps ms) : PlanSm ps ms :=
  ⟨by have := h.few; omega, by have := h.mfew; omega, fun m hm => by have := nm_len (h.mok.nm m hm); omega, fun q hq => ⟨by have := nm_len (h.ok.nm q.1 (List.mem_map_of_mem hq)); omega, by have := (h.parts q hq).len; omega,
    fun a ha => by have := nm_len ((h.parts q hq).ok.nm a.1 (List.mem_map_of_mem ha)); omega⟩⟩
abbrev s__law_lists : Stmt := top 32
theorem sc__law_lists : FnScope ["tray", "most", "wide", "found", "name", "some", "ways", "one", "k"] ["tray", "most", "wide"] (defScope s__law_lists) := ⟨rfl, rfl, rfl, by decide +kernel, rfl, by decide +kernel, by decide +kernel⟩
structure PlanL (ps : List Part) (ms : List Str) : Prop where
  good : PlanGood ps ms
  nl : NmL (ps.map (·.1))
  al : ∀ q, q ∈ ps → NmL (q.2.map (·.1))
  ml : NmL ms
theorem pick5w {r : Int} (h0 : 0 ≤ r) (h1 : r < 5) : ∃ w : Str, atI [PyData.str "first", .str "last", .str "day", .str "day", .str "before"] r = some (.str w) ∧ w ∈ ways5 := by
  have : r = 0 ∨ r = 1 ∨ r = 2 ∨ r = 3 ∨ r = 4 := by omega
  rcases this with rfl | rfl | rfl | rfl | rfl
  · exact ⟨_, rfl, by simp [ways5]⟩
  · exact ⟨_, rfl, by simp [ways5]⟩
  · exact ⟨_, rfl, by simp [ways5]⟩
  · exact ⟨_, rfl, by simp [ways5]⟩
  · exact ⟨_, rfl, by simp [ways5]⟩
inductive sp__law_lists (ss : List S) (M : Mem) (P : K2) (Z : X2) : Prop
  | mk (p g : Addr) (most wide : Int) (n : Nat) (h0 : ss = [.a p, .i most, .i wide]) (h1 : 1 ≤ most) (h2 : most ≤ 4) (h3 : 0 ≤ wide) (h4 : wide < 2) (h5 : Ty M p g n) (h6 : n < 700000) (h7 : ∀ (ps : List Part) (ms : List Str) (M' : Mem), PlanL ps ms → (ps.length : Int) ≤ most → (wide = 0 → (∀ q, q ∈ ps → q.2.length ≤ 3) ∧ ms.length ≤ 3) → Kp p g M M' → Ty M' p g (n + 500) → P (.d (.list [.list (partsD ps), .list (strsD ms)])) M') : sp__law_lists  ss M P Z
theorem ok__law_lists {f : Addr} {fd : FuncData} (F : Fun K "_law_lists" "_law_lists" s__law_lists f fd) (Z : Tx mg ca) (C__law_draw : Cal P w K mg base 1 "_law_draw" ["tray", "many"] sp__law_draw) (C__law_names : Cal P w K mg base 3 "_law_names" ["tray", "many"] sp__law_names) : FnOk2 P w K mg base 4 f fd ["tray", "most", "wide"] sp__law_lists := by
  refine fn2 F sc__law_lists (fun ss M P Z h => ?_) (fun cdv A outer s H E cx => ?_)
  · obtain ⟨p, g, most, wide, n, rfl, _⟩ := h; rfl
  · refine ⟨_, (qs_cons (qs_set 3 cx.nd (qe_lstM qa_nil))
    (qs_cons (qs_for cx (qi_seq (qe_call cx C__law_names (by omega) rfl (qa_cons (qv 0) (qa_cons (qe_add qe_int (qe_call cx C__law_draw (by omega) rfl (qa_cons (qv 0) (qa_cons (qv 1) qa_nil)))) qa_nil)))) (qgn 4 cx.nd)
    (qs_cons (qs_set 5 cx.nd (qe_call cx C__law_names (by omega) rfl (qa_cons (qv 0) (qa_cons (qe_call cx C__law_draw (by omega) rfl (qa_cons (qv 0) (qa_cons (qe_ix (qe_lst (qa_cons qe_int (qa_cons qe_int qa_nil))) (qv 2)) qa_nil))) qa_nil))))
    (qs_cons (qs_set 6 cx.nd (qe_lcE enD_ok cx (qi_seq (qv 5)) (blkOk_by (own := [("one", 7)]) rfl) (fun _ _ _ _ _ => (qgn 7 cx.blk.nd)) (fun _ _ _ _ _ => qts_nil) (fun _ _ _ _ _ cx => (qe_ix (qe_lst (qa_cons qe_str (qa_cons qe_str (qa_cons qe_str (qa_cons qe_str (qa_cons qe_str qa_nil)))))) (qe_call cx C__law_draw (by omega) rfl (qa_cons (qv 0) (qa_cons qe_int qa_nil)))))))
    (qs_one (qs_expr (qe_append (qv 3) (qa_cons (qe_tup (qa_cons (qv 4) (qa_cons (qe_tuple rfl Z.z_tuple (qa_cons (qe_lcE enD_ok cx (qi_rng1 rfl Z.z_range (qa_cons (qe_len rfl Z.z_len (qa_cons (qv 5) qa_nil)) qa_nil)) (blkOk_by (own := [("k", 8)]) rfl) (fun _ _ _ _ _ => (qgn 8 cx.blk.nd)) (fun _ _ _ _ _ => qts_nil) (fun _ _ _ _ _ cx => (qe_tup (qa_cons (qe_ix (qv 5) (qv 8)) (qa_cons (qe_ix (qv 6) (qv 8)) qa_nil))))) qa_nil)) qa_nil))) qa_nil)))))))
    (qs_one (qs_ret (qe_lst (qa_cons (qe_frz (qv 3)) (qa_cons (qe_call cx C__law_names (by omega) rfl (qa_cons (qv 0) (qa_cons (qe_call cx C__law_draw (by omega) rfl (qa_cons (qv 0) (qa_cons (qe_ix (qe_lst (qa_cons qe_int (qa_cons qe_int qa_nil))) (qv 2)) qa_nil))) qa_nil))) qa_nil))))))), ?_⟩
    rintro ss M Pq Z ⟨p, g, most, wide, n, rfl, m0, m1, w0, w1, dk, hn, k⟩
    have pickW : ∀ a b : Int, ∃ x : Int, atI [PyData.int a, .int b] wide = some (.int x) ∧ ((wide = 0 ∧ x = a) ∨ (wide = 1 ∧ x = b)) := fun a b => by
      have : wide = 0 ∨ wide = 1 := by omega
      rcases this with rfl | rfl
      · exact ⟨a, rfl, .inl ⟨rfl, rfl⟩⟩
      · exact ⟨b, rfl, .inr ⟨rfl, rfl⟩⟩
    intro u hu
    have up : u ≠ p := (ne_of_none dk.sp hu).symm
    have ug : u ≠ g := (ne_of_none dk.sg hu).symm
    refine ⟨p, g, most, n, rfl, by omega, by omega, dk.put hu, by omega, fun r M1 a0 a1 kp1 dk1 => ?_⟩
    refine ⟨p, g, 1 + r, _, rfl, by omega, by omega, dk1, by omega, fun nms M2 nok nlen kp2 dk2 => ?_⟩
    have hu2 : M2 u = some (.lst []) := (kp1.trans kp2) u _ mput_same up ug
    have kp12 : Kp p g M M2 := (Kp.refl.put hu).trans (kp1.trans kp2)
    refine ⟨_, rfl, forL nms (fun x => .s x) (fun dn ρ M' => Kp p g M M' ∧ Ty M' p g (n + 57 + 76 * dn.length) ∧ ∃ (ps : List Part) (a b c : Option S), ρ = [some (.a p), some (.i most), some (.i wide), some (.a u), a, b, c, none, none] ∧ M' u = some (.lst ((partsD ps).map S.d)) ∧ ps.map (·.1) = dn ∧
        ∀ q, q ∈ ps → PartGood q ∧ NmL (q.2.map (·.1)) ∧ (wide = 0 → q.2.length ≤ 3))
      (by rw [strsD, List.map_map]; rfl) ⟨kp12, dk2.grow (by omega), [], none, none, none, rfl, hu2, rfl, fun q hq => by simp at hq⟩ (fun _ _ _ _ => rfl) ?_ ?_⟩
    · rintro dn nm rest ρ M' e ⟨kp, dk', ps, a, b, c, rfl, hm, hps, good⟩
      have dnl : dn.length < nms.length := by
        rw [e, List.length_append, List.length_cons]
        omega
      have psl : ps.length = dn.length := by rw [← hps, List.length_map]
      obtain ⟨x46, hx46, cx46⟩ := pickW 4 6
      refine ⟨_, hx46, p, g, x46, _, rfl, by omega, by omega, dk', by omega, fun r6 M3 b0 b1 kp3 dk3 => ?_⟩
      refine ⟨p, g, r6, _, rfl, by omega, by omega, dk3, by omega, fun as M4 aok alen kp4 dk4 => ?_⟩
      have kp34 := kp3.trans kp4
      have hm4 := kp34 u _ hm up ug
      have eas : (strsD as).length = as.length := List.length_map _
      refine ⟨_, rfl, lcL as (fun x => .s x) (fun dd acc M' => Kp p g M4 M' ∧ Ty M' p g (n + 57 + 76 * dn.length + 71 + dd.length) ∧ ∃ ws : List Str, acc = (strsD ws).map S.d ∧ ws.length = dd.length ∧ ∀ a, a ∈ ws → a ∈ ways5)
        (by rw [strsD, List.map_map]; rfl) (size_le (m := 63) (by omega)) ⟨Kp.refl, dk4.grow (by simp; omega), [], rfl, rfl, fun a ha => by simp at ha⟩ (fun _ _ _ _ => rfl) ?_ ?_⟩
      · rintro dd y rest2 acc M5 e2 ⟨kp5, dk5, ws, rfl, hat, hw⟩
        have ddl : dd.length < as.length := by
          rw [e2, List.length_append, List.length_cons]
          omega
        refine ⟨p, g, 5, _, rfl, by omega, by omega, dk5, by omega, fun r5 M6 c0 c1 kp6 dk6 => ?_⟩
        obtain ⟨ww, hww, mww⟩ := pick5w c0 c1
        refine ⟨_, hww, kp5.trans kp6, dk6.grow (by rw [List.length_append]; simp; omega), ws ++ [ww], by rw [strsD_snoc], by rw [List.length_append, List.length_append, hat]; rfl, fun a ha => ?_⟩
        rcases List.mem_append.mp ha with h3 | h3
        · exact hw a h3
        · rw [List.mem_singleton.mp h3]
          exact mww
      · rintro acc M5 ⟨kp5, dk5, ws, rfl, hat, hw⟩
        have hm5 := kp5 u _ hm4 up ug
        refine ⟨_, rfl, isL_of hm5, as.length, by show some (strsD as).length = _; rw [eas], by omega, by omega, ?_⟩
        refine lc_mapL (List.range as.length) (fun i => .i (0 + (i : Int))) (fun i => attrD ((as[i]?).getD Str.empty, (ws[i]?).getD Str.empty)) rfl (by rw [List.length_range]; exact size_le (m := 63) (by omega)) trivial (fun i hi Q q => ?_) ?_
        · have hi := List.mem_range.mp hi
          have hi2 : i < ws.length := by omega
          rw [List.getElem?_eq_getElem hi, List.getElem?_eq_getElem hi2] at q
          exact ⟨.str as[i], atI_k (i := i) (by omega) (by unfold strsD; rw [List.getElem?_map, List.getElem?_eq_getElem hi]; rfl), .str ws[i], atI_k (i := i) (by omega) (by unfold strsD; rw [List.getElem?_map, List.getElem?_eq_getElem hi2]; rfl), q⟩
        have ez : (List.range as.length).map (fun i => ((as[i]?).getD Str.empty, (ws[i]?).getD Str.empty)) = as.zip ws := by
          refine List.ext_getElem (by rw [List.length_map, List.length_range, List.length_zip]; omega) fun i h1 h2 => ?_
          rw [List.length_map, List.length_range] at h1
          rw [List.getElem_map, List.getElem_range, List.getElem_zip, List.getElem?_eq_getElem h1, List.getElem?_eq_getElem (show i < ws.length by omega)]
          rfl
        have ez2 : (List.range as.length).map (fun i => attrD ((as[i]?).getD Str.empty, (ws[i]?).getD Str.empty)) = (as.zip ws).map attrD := by
          rw [← ez, List.map_map]
          rfl
        rw [ez2]
        have z1 : (as.zip ws).map (·.1) = as := List.map_fst_zip (by omega)
        refine ⟨_, .inl rfl, _, hm5, ?_, ((kp.trans kp34).trans kp5).put hu, (dk5.putne up.symm ug.symm).grow (by rw [List.length_append]; simp; omega), ps ++ [(nm, as.zip ws)], _, _, _, rfl, ?_, by rw [List.map_append, hps]; rfl, fun q hq => ?_⟩
        · rw [List.length_map, partsD, List.length_map]
          exact size_le (m := 63) (by omega)
        · rw [mput_same, partsD, partsD, List.map_append, List.map_append]
          rfl
        · rcases List.mem_append.mp hq with h3 | h3
          · exact good q h3
          · rw [List.mem_singleton.mp h3]
            refine ⟨⟨by show NmsOk ((as.zip ws).map (·.1)); rw [z1]; exact aok.ok, by show (as.zip ws).length ≤ 5; rw [List.length_zip]; omega, fun a ha => hw _ (List.of_mem_zip ha).2⟩, by show NmL ((as.zip ws).map (·.1)); rw [z1]; exact aok, fun hw0 => ?_⟩
            show (as.zip ws).length ≤ 3
            rw [List.length_zip]
            omega
    · rintro ρ M' ⟨kp, dk', ps, a, b, c, rfl, hm, hps, good⟩
      have hpl : ps.length = nms.length := by rw [← hps, List.length_map]
      refine ⟨u, _, rfl, hm, ?_⟩
      obtain ⟨x45, hx45, cx45⟩ := pickW 4 5
      refine ⟨_, hx45, p, g, x45, _, rfl, by omega, by omega, dk'.delne up.symm ug.symm, by omega, fun r4 M3 b0 b1 kp3 dk3 => ?_⟩
      refine ⟨p, g, r4, _, rfl, by omega, by omega, dk3, by omega, fun ms M4 mok mlen kp4 dk4 => ?_⟩
      exact k ps ms M4 ⟨⟨by rw [hps]; exact nok.ok, by omega, by omega, fun q hq => (good q hq).1, mok.ok, by omega⟩, by rw [hps]; exact nok, fun q hq => (good q hq).2.1, mok⟩ (by omega) (fun hw0 => ⟨fun q hq => (good q hq).2.2 hw0, by omega⟩) ((kp.del hu).trans (kp3.trans kp4)) (dk4.grow (by omega))
end
end K41
set_option Elab.async false
set_option linter.all false
set_option maxRecDepth 100000
set_option maxHeartbeats 1000000
set_option pp.maxSteps 1200
namespace K41
open PySem PySem.Spec PyProof.Rows L2 Lv
section
variable {P : Program} {w : World} {K : PySem.W.Frag} {mg : Str → Option Value} {base : Heap} {ca : Nat → Addr}
theorem app_cps (a b : Str) : (a ++ b).cps.toList = a.cps.toList ++ b.cps.toList := by
  show (a.cps ++ b.cps).toList = _
  rw [Array.toList_append]
theorem app_len (a b : Str) : (a ++ b).length = a.length + b.length := by
  show (a.cps ++ b.cps).size = _
  rw [Array.size_append]
  rfl
/-- no part has the sign s -/
def noS (s : Nat) (x : Str) : Prop := s ∉ x.cps.toList
theorem noS_app {s : Nat} {a b : Str} (ha : noS s a) (hb : noS s b) : noS s (a ++ b) := fun h => by
  rw [app_cps] at h
  rcases List.mem_append.mp h with h | h
  · exact ha h
  · exact hb h
theorem joined_len (y : Str) : ∀ ps : List Str, (Txt.join y ps).length ≤ (ps.map (·.length)).sum + ps.length * y.length := by
  intro ps
  rw [TL.join_eq]
  induction ps with
  | nil => exact Nat.zero_le _
  | cons x r ih =>
    cases r with
    | nil =>
      show x.length ≤ x.length + 0 + (0 + 1) * y.length
      omega
    | cons z r =>
      show (x ++ y ++ Str.join y (z :: r)).length ≤ _
      rw [app_len, app_len]
      rw [List.map_cons, List.sum_cons, List.length_cons, Nat.succ_mul]
      omega
theorem sum_le {xs : List Str} {n : Nat} (h : ∀ x, x ∈ xs → x.length ≤ n) : (xs.map (·.length)).sum ≤ xs.length * n := by
  induction xs with
  | nil => exact Nat.zero_le _
  | cons x r ih =>
    rw [List.map_cons, List.sum_cons, List.length_cons, Nat.succ_mul]
    have h1 := h x (List.mem_cons_self ..)
    have h2 := ih fun y hy => h y (List.mem_cons_of_mem _ hy)
    omega
/-- a list made here may change -/
theorem gw_putD {M M' : Mem} {u : Addr} {o o' : MO} (gw : Gw M M') (_ : M' u = some o) (hu : M u = none) : Gw M (mput M' u o') := fun q x e => by
  rw [mput_ne fun z => ?_]
  · exact gw q x e
  · subst z; rw [hu] at e; cases e
def attrShow (a : Str × Str) : Str := a.1 ++ ":" ++ a.2
def dimWs (q : Part) : List Str := (["dim", q.1] : List Str) ++ q.2.map attrShow
def sumWs (ms : List Str) : List Str := (["sum"] : List Str) ++ ms
def dimShow (q : Part) : Str := Txt.join " " (dimWs q)
def sumShow (ms : List Str) : List Str := if ms = [] then [] else [Txt.join " " (sumWs ms)]
def planShow (ps : List Part) (ms : List Str) : Str := Txt.join "; " (ps.map dimShow ++ sumShow ms)
def ways4 : List Str := ["first", "last", "day", "before"]
def attrOk (ps : List Str) : Bool := decide (ps.length = 2) && (nmB (ps.getD 0 Str.empty) && decide (ps.getD 1 Str.empty ∈ ways4))
def toA (ps : List Str) : Str × Str := (ps.getD 0 Str.empty, ps.getD 1 Str.empty)
def dimIn : List Str → Option Part
  | [] => none
  | n :: r => if (nmB n && (r.map fun w => Txt.split w ":").all attrOk) = true then some (n, r.map fun w => toA (Txt.split w ":")) else none
def dimD : Option Part → PyData
  | none => .none
  | some q => partD q
def readParts (t : Str) : List (List Str) := (Txt.split t "; ").map fun p => Txt.split p " "
def readPre (pp : List (List Str)) : Option (List (List Str) × List Str) := match pp.getLast? with
  | some (w :: ms) => if w = "sum" then (if ms = [] then none else some (pp.dropLast, ms)) else some (pp, [])
  | _ => some (pp, [])
def dimOf : List Str → Option Part
  | w :: r => if w = "dim" then dimIn r else none
  | [] => none
def allSome {α : Type} : List (Option α) → Option (List α)
  | [] => some []
  | some x :: r => (allSome r).map (x :: ·)
  | none :: _ => none
theorem allSome_map {α : Type} : ∀ {l : List (Option α)} {xs : List α}, allSome l = some xs → l = xs.map some
  | [], _, h => by cases h; rfl
  | some x :: r, xs, h => by
    unfold allSome at h
    cases e : allSome r with
    | none => rw [e] at h; cases h
    | some l =>
      rw [e] at h; cases h
      rw [List.map_cons, allSome_map e]
  | none :: _, _, h => by cases h
theorem allSome_of {α : Type} : ∀ (xs : List α), allSome (xs.map some) = some xs
  | [] => rfl
  | x :: r => by
    show (allSome (r.map some)).map (x :: ·) = _
    rw [allSome_of r]
    rfl
def readPlan (t : Str) : Option (List Part × List Str) := match readPre (readParts t) with
  | none => none
  | some (pp, ms) => match allSome (pp.map dimOf) with
    | none => none
    | some ps => if planFault ps ms = none then some (ps, ms) else none
theorem strs2 {ps : List Str} (h : ps.length = 2) : strsD ps = [.str (toA ps).1, .str (toA ps).2] := by
  match ps, h with
  | [a, b], _ => rfl
theorem cs26_lt : ∀ c, c ∈ cs26 → 97 ≤ c := by decide +kernel
theorem low_noS {s : Nat} {x : Str} (hs : s < 97) (h : lowC x) : noS s x := fun z => by
  have := cs26_lt s (h s z)
  omega
theorem ways5_low : ∀ w, w ∈ ways5 → lowC w ∧ w ∈ ways4 ∧ w.length ≤ 6 := by
  have : ∀ w, w ∈ ways5 → (∀ c, c ∈ w.cps.toList → c ∈ cs26) ∧ w ∈ ways4 ∧ w.length ≤ 6 := by decide +kernel
  exact this
theorem sign_no : noS 59 ":" ∧ noS 59 " " ∧ noS 59 "dim" ∧ noS 59 "sum" ∧ noS 32 ":" ∧ noS 32 "dim" ∧ noS 32 "sum" := by
  have : (59 ∉ (":" : Str).cps.toList) ∧ (59 ∉ (" " : Str).cps.toList) ∧ (59 ∉ ("dim" : Str).cps.toList) ∧ (59 ∉ ("sum" : Str).cps.toList) ∧ (32 ∉ (":" : Str).cps.toList) ∧ (32 ∉ ("dim" : Str).cps.toList) ∧ (32 ∉ ("sum" : Str).cps.toList) := by decide +kernel
  exact this
structure PartL (q : Part) : Prop where
  nm : lowN q.1
  good : PartGood q
  al : NmL (q.2.map (·.1))
theorem PartL.attr {q : Part} (h : PartL q) {a : Str × Str} (ha : a ∈ q.2) : lowN a.1 ∧ lowC a.2 ∧ a.2 ∈ ways4 ∧ a.2.length ≤ 6 := ⟨h.al.low _ (List.mem_map_of_mem ha), ways5_low _ (h.good.ways a ha)⟩
theorem dim_words {q : Part} (h : PartL q) : ∀ w, w ∈ dimWs q → noS 32 w ∧ noS 59 w ∧ w.length ≤ 15 := by
  obtain ⟨s1, s2, s3, s4, s5, s6, s7⟩ := sign_no
  intro w hw
  unfold dimWs at hw
  rcases List.mem_append.mp hw with hw | hw
  · simp only [List.mem_cons, List.not_mem_nil, or_false] at hw
    rcases hw with rfl | rfl
    · exact ⟨s6, s3, by decide +kernel⟩
    · exact ⟨low_noS (by decide) h.nm.2.2, low_noS (by decide) h.nm.2.2, by have := h.nm.1; omega⟩
  · obtain ⟨a, ha, rfl⟩ := List.mem_map.mp hw
    obtain ⟨h1, h2, _, h4⟩ := h.attr ha
    refine ⟨noS_app (noS_app (low_noS (by decide) h1.2.2) s5) (low_noS (by decide) h2), noS_app (noS_app (low_noS (by decide) h1.2.2) s1) (low_noS (by decide) h2), ?_⟩
    unfold attrShow
    rw [app_len, app_len]
    have : (":" : Str).length = 1 := by decide +kernel
    have := h1.1
    omega
theorem PlanL.part {ps : List Part} {ms : List Str} (g : PlanL ps ms) {q : Part} (hq : q ∈ ps) : PartL q := ⟨g.nl.low _ (List.mem_map_of_mem hq), g.good.parts q hq, g.al q hq⟩
theorem sum_words {ms : List Str} (h : NmL ms) : ∀ w, w ∈ sumWs ms → noS 32 w ∧ noS 59 w ∧ w.length ≤ 15 := by
  obtain ⟨s1, s2, s3, s4, s5, s6, s7⟩ := sign_no
  intro w hw
  unfold sumWs at hw
  rcases List.mem_append.mp hw with hw | hw
  · rw [List.mem_singleton.mp hw]
    exact ⟨s7, s4, by decide +kernel⟩
  · have := h.low w hw
    exact ⟨low_noS (by decide) this.2.2, low_noS (by decide) this.2.2, by have := this.1; omega⟩
theorem dimShow_len {q : Part} (h : PartL q) : (dimShow q).length ≤ 200 := by
  have h1 := joined_len " " (dimWs q)
  have h2 := sum_le (xs := dimWs q) (n := 15) fun w hw => (dim_words h w hw).2.2
  have h3 : (" " : Str).length = 1 := by decide +kernel
  have h4 : (dimWs q).length ≤ 7 := by unfold dimWs; rw [List.length_append, List.length_map]; have := h.good.len; show 2 + _ ≤ 7; omega
  unfold dimShow
  rw [h3] at h1
  omega
theorem planShow_len {ps : List Part} {ms : List Str} (g : PlanL ps ms) : (planShow ps ms).length ≤ 1010 ∧ ∀ p, p ∈ ps.map dimShow ++ sumShow ms → p.length ≤ 200 := by
  have hp : ∀ p, p ∈ ps.map dimShow ++ sumShow ms → p.length ≤ 200 := fun p hp => by
    rcases List.mem_append.mp hp with hp | hp
    · obtain ⟨q, hq, rfl⟩ := List.mem_map.mp hp
      exact dimShow_len (g.part hq)
    · unfold sumShow at hp
      split at hp
      · cases hp
      · rw [List.mem_singleton.mp hp]
        have h1 := joined_len " " (sumWs ms)
        have h2 := sum_le (xs := sumWs ms) (n := 15) fun w hw => (sum_words g.ml w hw).2.2
        have h3 : (" " : Str).length = 1 := by decide +kernel
        have h4 : (sumWs ms).length ≤ 5 := by unfold sumWs; rw [List.length_append]; have := g.good.mfew; show 1 + _ ≤ 5; omega
        rw [h3] at h1
        omega
  refine ⟨?_, hp⟩
  have h1 := joined_len "; " (ps.map dimShow ++ sumShow ms)
  have h2 := sum_le hp
  have h3 : ("; " : Str).length = 2 := by decide +kernel
  have h4 : (ps.map dimShow ++ sumShow ms).length ≤ 5 := by
    rw [List.length_append, List.length_map]
    have := g.good.few
    have : (sumShow ms).length ≤ 1 := by unfold sumShow; split <;> simp
    omega
  unfold planShow
  rw [h3] at h1
  omega
end
end K41
set_option Elab.async false
set_option linter.all false
set_option maxRecDepth 100000
set_option maxHeartbeats 1000000
set_option pp.maxSteps 1200
namespace K41
open PySem PySem.Spec PyProof.Rows L2 Lv
section
variable {P : Program} {w : World} {K : PySem.W.Frag} {mg : Str → Option Value} {base : Heap} {ca : Nat → Addr}
theorem size15 {n : Nat} (h : n ≤ 16000000) : n ≤ sizeLine := Nat.le_trans h (by decide)
abbrev s_dimension_in : Stmt := top 25
theorem sc_dimension_in : FnScope ["words", "name", "rest", "attributes", "word", "pair"] ["words"] (defScope s_dimension_in) := ⟨rfl, rfl, rfl, by decide +kernel, rfl, by decide +kernel, by decide +kernel⟩
theorem cut_tailS (x : PyData) (xs : List PyData) : cutD (x :: xs) (some 1) none = xs := by
  have e0 : HT.sIx (x :: xs).length 0 (some ((1 : Nat) : Int)) = min 1 (x :: xs).length := HT.sIx_nat _ _ _
  have e1 : HT.sIx (x :: xs).length (x :: xs).length none = (x :: xs).length := rfl
  unfold Lv.cutD
  rw [show (some (1 : Int)) = some ((1 : Nat) : Int) from rfl, e0, e1, List.length_cons, Nat.min_eq_left (by omega), List.drop_succ_cons, List.drop_zero]
  exact List.take_of_length_le (by omega)
inductive sp_dimension_in (ss : List S) (M : Mem) (P : K2) (Z : X2) : Prop
  | mk (ws : List Str) (h0 : ss = [.d (.list (strsD ws))]) (h1 : ws.length ≤ 10000) (h2 : (∀ w, w ∈ ws → w.length ≤ 10000)) (h3 : P (.d (dimD (dimIn ws))) M) : sp_dimension_in  ss M P Z
theorem sub_len (y x : Str) : ∀ p, p ∈ Txt.split x y → p.length ≤ x.length := by
  have e := PySem.StrLaws.join_split x y
  have key : ∀ (ps : List Str) (p : Str), p ∈ ps → p.length ≤ (Str.join y ps).length := by
    intro ps
    induction ps with
    | nil => intro p hp; cases hp
    | cons a r ih =>
      intro p hp
      cases r with
      | nil => rw [List.mem_singleton.mp hp]; exact Nat.le_refl _
      | cons b r =>
        show p.length ≤ (a ++ y ++ Str.join y (b :: r)).length
        rw [app_len, app_len]
        rcases List.mem_cons.mp hp with rfl | hp
        · omega
        · have := ih p hp; omega
  intro p hp
  have := key _ p hp
  rwa [e] at this
theorem len_eq2 (a b : Nat) : PyData.eqv (.int (a : Int)) (.int (b : Int)) = decide (a = b) := by
  rw [eqv_int]
  exact decide_eq_decide.mpr (by omega)
theorem in_ways (x : Str) : ((strsD ways4).any fun y => PyData.eqv y (.str x)) = decide (x ∈ ways4) := in_strs x ways4
theorem ok_dimension_in {f : Addr} {fd : FuncData} (F : Fun K "dimension_in" "dimension_in" s_dimension_in f fd) (Z : Tx mg ca) (G_WAYS : GTup K mg "WAYS" ways4) (C_is_name : Cal P w K mg base 1 "is_name" ["text"] sp_is_name) : FnOk2 P w K mg base 2 f fd ["words"] sp_dimension_in := by
  refine fn2 F sc_dimension_in (fun ss M P Z h => ?_) (fun cdv A outer s H E cx => ?_)
  · obtain ⟨ws, rfl, _⟩ := h; rfl
  · refine ⟨_, (qs_cons (qs_if (qt_w (qw_or (qt_eq cx (qv 0) (qe_lst qa_nil)) (qw_or1 (qt_not (qt_val (qe_call cx C_is_name (by omega) rfl (qa_cons (qe_ix (qv 0) qe_int) qa_nil))))))) (qs_one (qs_ret qe_non)) qs_nil)
    (qs_cons (qs_asg (qv 0) (qg_star 1 rfl (qgs_cons (qgn 1 cx.nd) (qgs_consS (qgn 2 cx.nd) qgs_nil))))
    (qs_cons (qs_setLc (i := 3) enD_ok cx (qi_seq (qv 2)) (blkOk_by (own := [("word", 4)]) rfl) (fun _ _ _ _ _ => (qgn 4 cx.blk.nd)) (fun _ _ _ _ _ => qts_nil) (fun _ _ _ _ _ cx => (qe_tuple rfl Z.z_tuple (qa_cons (qe_split (qv 4) qe_str) qa_nil))))
    (qs_cons (qs_if (qt_not (qt_val (qe_all cx rfl Z.z_all (qa_cons (qe_lcE enD_ok cx (qi_seq (qv 3)) (blkOk_by (own := [("pair", 5)]) rfl) (fun _ _ _ _ _ => (qgn 5 cx.blk.nd)) (fun _ _ _ _ _ => qts_nil) (fun _ _ _ _ _ cx => (qe_and (qe_eq cx (qe_len rfl Z.z_len (qa_cons (qv 5) qa_nil)) qe_int) (qe_and (qe_call cx C_is_name (by omega) rfl (qa_cons (qe_ix (qv 5) qe_int) qa_nil)) (qe_one (qe_in cx (qe_ix (qv 5) qe_int) (qe_gT rfl G_WAYS))))))) qa_nil)))) (qs_one (qs_ret qe_non)) qs_nil)
    (qs_one (qs_ret (qe_tup (qa_cons (qv 1) (qa_cons (qe_tuple rfl Z.z_tuple (qa_cons (qv 3) qa_nil)) qa_nil))))))))), ?_⟩
    rintro ss M Pq Z ⟨ws, rfl, hl, hw, k⟩
    refine ⟨_, _, .inl rfl, .inl rfl, depth_nil _, ?_⟩
    rw [eqv_nil]
    cases ws with
    | nil => exact k
    | cons n r =>
      have hn := hw n (List.mem_cons_self ..)
      rw [List.length_cons] at hl
      refine ⟨_, atI_zero _ _, n, rfl, hn, ?_⟩
      have k : Pq (.d (dimD (if (nmB n && (r.map fun w => Txt.split w ":").all attrOk) = true then some (n, r.map fun w => toA (Txt.split w ":")) else none))) M := k
      refine byB (fun h => ?_) (fun h => ?_)
      · have h : nmB n = false := by simpa using h
        rw [h] at k
        exact k
      have h : nmB n = true := by simpa using h
      rw [h, Bool.true_and] at k
      refine star_end [.s n] (strsD r) (.inl rfl) (by show 1 + _ ≤ _; unfold strsD; rw [List.length_map]; omega) ?_
      refine ⟨_, rfl, lc_mapL r (fun w => .s w) (fun w => .tuple (strsD (Txt.split w ":"))) (by rw [strsD, List.map_map]; rfl) (Nat.lt_of_le_of_lt (Nat.le_of_succ_le hl) (by decide)) rfl (fun w hw2 Q k2 => ?_) ?_⟩
      · have := hw w (List.mem_cons_of_mem _ hw2)
        exact ⟨⟨_, rfl⟩, by decide +kernel, size15 (by omega), _, .inl rfl, k2⟩
      refine ⟨_, rfl, lc_mapL r (fun w => .d (.tuple (strsD (Txt.split w ":")))) (fun w => .bool (attrOk (Txt.split w ":"))) (by rw [List.map_map]; rfl) (Nat.lt_of_le_of_lt (Nat.le_of_succ_le hl) (by decide)) rfl (fun w hw2 Q k2 => ?_) ?_⟩
      · have hlen := hw w (List.mem_cons_of_mem _ hw2)
        have hsub := sub_len ":" w
        revert hsub k2
        generalize Txt.split w ":" = ps
        intro k2 hsub
        refine ⟨_, rfl, ?_⟩
        have e2 : PyData.eqv (.int ((strsD ps).length : Int)) (.int 2) = decide (ps.length = 2) := by
          have := len_eq2 (strsD ps).length 2
          rw [show ((2 : Nat) : Int) = 2 from rfl] at this
          rw [this]
          unfold strsD
          rw [List.length_map]
        unfold attrOk at k2
        refine byB (fun h2 => ?_) (fun h2 => ?_)
        · have h2 := e2.symm.trans h2
          rw [h2, Bool.true_and] at k2
          have h2 := of_decide_eq_true h2
          match ps, h2, k2, hsub with
          | [a, b], _, k2, hsub =>
            refine ⟨_, atI_zero _ _, a, rfl, by have := hsub a (by simp); omega, ?_⟩
            have k2 : Q (.b (nmB a && decide (b ∈ ways4))) M := k2
            refine byB (fun h3 => ?_) (fun h3 => ?_)
            · rw [h3, Bool.true_and] at k2
              refine ⟨_, rfl, ?_⟩
              refine ⟨_, _, .inl rfl, .inr rfl, by simp [PyData.depth], ?_⟩
              rw [in_ways]
              exact k2
            · rw [h3, Bool.false_and] at k2
              exact k2
        · have h2 := e2.symm.trans h2
          rw [h2, Bool.false_and] at k2
          exact k2
      · have eb : (r.map fun w => PyData.bool (attrOk (Txt.split w ":"))) = boolsD ((r.map fun w => Txt.split w ":").map attrOk) := by
          unfold boolsD
          rw [List.map_map, List.map_map]
          rfl
        refine ⟨_, .inl (congrArg (fun x => S.d (.list x)) eb), ?_⟩
        have ea : ((r.map fun w => Txt.split w ":").map attrOk).all id = (r.map fun w => Txt.split w ":").all attrOk := by rw [List.all_map]; rfl
        rw [ea]
        refine byB (fun h2 => ?_) (fun h2 => ?_)
        · have h2 : (r.map fun w => Txt.split w ":").all attrOk = false := by simpa using h2
          rw [h2] at k
          exact k
        · have h2 : (r.map fun w => Txt.split w ":").all attrOk = true := by simpa using h2
          rw [h2] at k
          refine ⟨_, .inl rfl, ?_⟩
          have et : (r.map fun w => PyData.tuple (strsD (Txt.split w ":"))) = (r.map fun w => toA (Txt.split w ":")).map attrD := by
            rw [List.map_map]
            refine List.map_congr_left fun w hw2 => ?_
            have := List.all_eq_true.mp h2 _ (List.mem_map_of_mem hw2)
            unfold attrOk at this
            rw [Bool.and_eq_true, decide_eq_true_eq] at this
            show PyData.tuple _ = PyData.tuple _
            rw [strs2 this.1]
          rw [et]
          exact k
end
end K41
set_option Elab.async false
set_option linter.all false
set_option maxRecDepth 100000
set_option maxHeartbeats 1000000
set_option pp.maxSteps 1200
namespace K41
open PySem PySem.Spec PyProof.Rows L2 Lv
section
variable {P : Program} {w : World} {K : PySem.W.Frag} {mg : Str → Option Value} {base : Heap} {ca : Nat → Addr}
abbrev s__law_plan_shown : Stmt := top 33
theorem sc__law_plan_shown : FnScope ["some", "sums", "parts", "name", "rows", "one", "way"] ["some", "sums"] (defScope s__law_plan_shown) := ⟨rfl, rfl, rfl, by decide +kernel, rfl, by decide +kernel, by decide +kernel⟩
inductive sp__law_plan_shown (ss : List S) (M : Mem) (P : K2) (Z : X2) : Prop
  | mk (ps : List Part) (ms : List Str) (h0 : ss = [.d (.list (partsD ps)), .d (.list (strsD ms))]) (h1 : PlanL ps ms) (h2 : ∀ M', Gw M M' → P (.s (planShow ps ms)) M') : sp__law_plan_shown  ss M P Z
theorem ok__law_plan_shown {f : Addr} {fd : FuncData} (F : Fun K "_law_plan_shown" "_law_plan_shown" s__law_plan_shown f fd) (Z : Tx mg ca) : FnOk2 P w K mg base 1 f fd ["some", "sums"] sp__law_plan_shown := by
  refine fn2 F sc__law_plan_shown (fun ss M P Z h => ?_) (fun cdv A outer s H E cx => ?_)
  · obtain ⟨ps, ms, rfl, _⟩ := h; rfl
  · refine ⟨_, (qs_cons (qs_set 2 cx.nd (qe_lstM qa_nil))
    (qs_cons (qs_for cx (qi_seq (qv 0)) (qg_tuple rfl (qgs_cons (qgn 3 cx.nd) (qgs_cons (qgn 4 cx.nd) qgs_nil)) (gl_cons gv_name (gl_cons gv_name gl_nil)))
    (qs_one (qs_expr (qe_append (qv 2) (qa_cons (qe_join qe_str (qe_add (qe_lst (qa_cons qe_str (qa_cons (qv 3) qa_nil))) (qe_lcE enD_ok cx (qi_seq (qv 4)) (blkOk_by (own := [("one", 5), ("way", 6)]) rfl) (fun _ _ _ _ _ => (qg_tuple rfl (qgs_cons (qgn 5 cx.blk.nd) (qgs_cons (qgn 6 cx.blk.nd) qgs_nil)) (gl_cons gv_name (gl_cons gv_name gl_nil)))) (fun _ _ _ _ _ => qts_nil) (fun _ _ _ _ _ cx => (qe_add (qe_add (qv 5) qe_str) (qv 6)))))) qa_nil)))))
    (qs_cons (qs_if (qt_ne cx (qv 1) (qe_lst qa_nil)) (qs_one (qs_expr (qe_append (qv 2) (qa_cons (qe_join qe_str (qe_add (qe_lst (qa_cons qe_str qa_nil)) (qv 1))) qa_nil)))) qs_nil)
    (qs_one (qs_ret (qe_join qe_str (qv 2))))))), ?_⟩
    rintro ss M Pq Z ⟨ps, ms, rfl, pl, k⟩
    have np := pl.good.few
    have nm := pl.good.mfew
    obtain ⟨hL, hS⟩ := planShow_len pl
    have e3 : (" " : Str).length = 1 := by decide +kernel
    have e4 : ("; " : Str).length = 2 := by decide +kernel
    have c1 : (":" : Str).length = 1 := by decide +kernel
    intro u hu
    refine ⟨_, rfl, forL ps (fun q => .d (partD q)) (fun dn ρ M' => Gw M M' ∧ ∃ (a b : Option S), ρ = [some (.d (.list (partsD ps))), some (.d (.list (strsD ms))), some (.a u), a, b, none, none] ∧ M' u = some (.lst ((strsD (dn.map dimShow)).map S.d)))
      (by rw [partsD, List.map_map]; rfl) ⟨Gw.refl.put hu, none, none, rfl, mput_same⟩ (fun _ _ _ _ => rfl) ?_ ?_⟩
    · rintro dn q rest ρ M' e ⟨gw, a, b, rfl, hm⟩
      have pq := pl.part (mem_mid e)
      have ql := pq.good.len
      refine ⟨isL_of hm, ⟨_, rfl⟩, _, rfl, lc_mapL q.2 (fun a => .d (attrD a)) (fun a => .str (attrShow a)) (by rw [List.map_map]; rfl) (size_le (m := 63) (by omega)) rfl (fun a ha Q k2 => ?_) ?_⟩
      · obtain ⟨h1, h2, _, h4⟩ := pq.attr ha
        have := h1.1
        exact ⟨size15 (by rw [c1]; omega), size15 (by rw [app_len, c1]; omega), k2⟩
      have e : (q.2.map fun a => PyData.str (attrShow a)) = strsD (q.2.map attrShow) := by
        unfold strsD
        rw [List.map_map]
        rfl
      rw [e]
      have le : (strsD (q.2.map attrShow)).length = q.2.length := by unfold strsD; rw [List.length_map, List.length_map]
      refine ⟨_, _, .inl rfl, .inl rfl, size15 (by rw [le]; show 2 + _ ≤ _; omega), ?_⟩
      refine ⟨dimWs q, .inl (.inl rfl), ?_, ?_⟩
      · have h2 := sum_le (xs := dimWs q) (n := 15) fun w hw => (dim_words pq w hw).2.2
        have h4 : (dimWs q).length ≤ 7 := by unfold dimWs; rw [List.length_append, List.length_map]; show 2 + _ ≤ 7; omega
        rw [e3]
        omega
      have dnl : dn.length < ps.length := by rw [‹ps = _›, List.length_append, List.length_cons]; omega
      refine ⟨_, hm, ?_, gw_putD gw hm hu, _, _, rfl, ?_⟩
      · unfold strsD
        rw [List.length_map, List.length_map, List.length_map]
        exact size_le (m := 63) (by omega)
      · rw [mput_same, List.map_append, List.map_cons, List.map_nil, strsD_snoc]
        rfl
    · rintro ρ M' ⟨gw, a, b, rfl, hm⟩
      have fin : ∀ (M2 : Mem), M2 u = some (.lst ((strsD (ps.map dimShow ++ sumShow ms)).map S.d)) → Gw M M2 → ∃ ys : List Str, (DL M2 (.a u) (strsD ys) ∨ S.a u = .d (.tuple (strsD ys))) ∧ (ys.map (·.length)).sum + ys.length * ("; " : Str).length ≤ 16777216 ∧ Pq (.s (Txt.join "; " ys)) M2 := fun M2 h2 gw => by
        refine ⟨ps.map dimShow ++ sumShow ms, .inl (DL.of h2), ?_, k M2 gw⟩
        have h5 := sum_le hS
        have h6 : (ps.map dimShow ++ sumShow ms).length ≤ 5 := by
          rw [List.length_append, List.length_map]
          have : (sumShow ms).length ≤ 1 := by unfold sumShow; split <;> simp
          omega
        rw [e4]
        omega
      refine ⟨_, _, .inl rfl, .inl rfl, depth_nil _, ?_⟩
      refine byB (fun h => ?_) (fun h => ?_)
      · have hne : ms ≠ [] := fun z => by
          subst z
          have h : (!PyData.eqv (.list []) (.list [])) = true := h
          rw [eqv_nil] at h; cases h
        refine ⟨isL_of hm, ⟨_, rfl⟩, ?_⟩
        have lm : (strsD ms).length = ms.length := List.length_map _
        refine ⟨_, _, .inl rfl, .inl rfl, size15 (by rw [lm]; show 1 + _ ≤ _; omega), ?_⟩
        refine ⟨sumWs ms, .inl (.inl rfl), ?_, ?_⟩
        · have h5 := sum_le (xs := sumWs ms) (n := 15) fun w hw => (sum_words pl.ml w hw).2.2
          have h6 : (sumWs ms).length ≤ 5 := by unfold sumWs; rw [List.length_append]; show 1 + _ ≤ 5; omega
          rw [e3]
          omega
        refine ⟨_, hm, ?_, ?_⟩
        · rw [List.length_map]
          unfold strsD
          rw [List.length_map, List.length_map]
          exact size_le (m := 63) (by omega)
        refine ⟨⟨_, rfl⟩, fin _ ?_ (gw_putD gw hm hu)⟩
        rw [mput_same]
        unfold sumShow
        rw [if_neg hne, strsD_snoc]
      · have hne : ms = [] := by
          have h : (!PyData.eqv (.list (strsD ms)) (.list [])) = false := h
          rw [eqv_nil] at h
          cases ms with
          | nil => rfl
          | cons _ _ => cases h
        refine ⟨⟨_, rfl⟩, fin _ ?_ gw⟩
        rw [hm, hne]
        show _ = some (MO.lst ((strsD (ps.map dimShow ++ [])).map S.d))
        rw [List.append_nil]
end
end K41
set_option Elab.async false
set_option linter.all false
set_option maxRecDepth 100000
set_option maxHeartbeats 1000000
set_option pp.maxSteps 1200
namespace K41
open PySem PySem.Spec PyProof.Rows L2 Lv
section
variable {P : Program} {w : World} {K : PySem.W.Frag} {mg : Str → Option Value} {base : Heap} {ca : Nat → Addr}
abbrev s_read_plan : Stmt := top 26
theorem sc_read_plan : FnScope ["text", "parts", "measures", "word", "dimensions", "part", "words"] ["text"] (defScope s_read_plan) := ⟨rfl, rfl, rfl, by decide +kernel, rfl, by decide +kernel, by decide +kernel⟩
structure SmT (t : Str) : Prop where
  len : t.length ≤ 100000
  parts : (Txt.split t "; ").length ≤ 10000
  words : ∀ p, p ∈ readParts t → p.length ≤ 10000 ∧ ∀ w, w ∈ p → w.length ≤ 10000
inductive sp_read_plan (C : Addr) (ss : List S) (M : Mem) (P : K2) (Z : X2) : Prop
  | mk (t : Str) (ps : List Part) (ms : List Str) (h0 : ss = [.s t]) (h1 : SmT t) (h2 : readPlan t = some (ps, ms)) (h3 : ∀ x M', M x = none → Gw M M' → PlanAt C M' x ps ms → P (.a x) M') : sp_read_plan C ss M P Z
inductive sp_read_planF (C CT : Addr) (ss : List S) (M : Mem) (P : K2) (Z : X2) : Prop
  | mk (t : Str) (h0 : ss = [.s t]) (h1 : SmT t) (h2 : 
  match readPlan t with
  | none => ∀ M', Gw M M' → Z CT (.s t) M'
  | some z => ∀ x M', M x = none → Gw M M' → PlanAt C M' x z.1 z.2 → P (.a x) M') : sp_read_planF C CT ss M P Z
theorem read_plan_le {C CT : Addr} : ∀ ss M P Z, sp_read_plan C ss M P Z → sp_read_planF C CT ss M P (fun _ _ _ => False) := by
  rintro ss M P Z ⟨t, ps, ms, rfl, sm, hr, k⟩
  refine ⟨t, rfl, sm, ?_⟩
  rw [hr]
  exact k
theorem atI_lastS {α : Type} (xs : List α) (x : α) : atI (xs ++ [x]) (-1) = some x := by
  unfold atI ixN
  rw [if_neg (by decide), if_pos (by rw [List.length_append]; simp; omega)]
  show (xs ++ [x])[((-1 : Int) + ((xs ++ [x]).length : Nat)).toNat]? = some x
  have : ((-1 : Int) + ((xs ++ [x]).length : Nat)).toNat = xs.length := by rw [List.length_append]; simp; omega
  rw [this]
  simp
theorem none_dim (o : Option Part) : PyData.eqv (dimD o) .none = o.isNone := by
  cases o with
  | none => simp [dimD, PyData.eqv]
  | some q => simp [dimD, partD, PyData.eqv]
theorem sub_lenP (y x : Str) : ∀ p, p ∈ Txt.split x y → p.length ≤ x.length := by
  have e := PySem.StrLaws.join_split x y
  have key : ∀ (ps : List Str) (p : Str), p ∈ ps → p.length ≤ (Str.join y ps).length := by
    intro ps
    induction ps with
    | nil => intro p hp; cases hp
    | cons a r ih =>
      intro p hp
      cases r with
      | nil => rw [List.mem_singleton.mp hp]; exact Nat.le_refl _
      | cons b r =>
        show p.length ≤ (a ++ y ++ Str.join y (b :: r)).length
        rw [app_len, app_len]
        rcases List.mem_cons.mp hp with rfl | hp
        · omega
        · have := ih p hp; omega
  intro p hp
  have := key _ p hp
  rwa [e] at this
theorem split_nilP (x y : Str) : Txt.split x y ≠ [] := by
  unfold Txt.split
  split
  · simp
  · split
    · simp
    · rw [PySem.StrLaws.partsBetween_eq]
      intro z
      obtain ⟨p, r, e⟩ := PySem.StrLaws.partsFrom_ne x y.length 0 _
      cases e.symm.trans z
theorem allSome_anyD {l : List (Option Part)} : (l.any Option.isNone) = (allSome l).isNone := by
  induction l with
  | nil => rfl
  | cons o r ih =>
    cases o with
    | none => rfl
    | some q =>
      rw [List.any_cons, ih]
      show _ = ((allSome r).map (q :: ·)).isNone
      cases allSome r <;> rfl
/-- what is read of words is no longer than they -/
theorem dimIn_sm {r : List Str} {q : Part} (h : dimIn r = some q) (hl : r.length ≤ 10000) (hw : ∀ w, w ∈ r → w.length ≤ 10000) : q.1.length ≤ 10000 ∧ q.2.length ≤ 10000 ∧ ∀ a, a ∈ q.2 → a.1.length ≤ 10000 := by
  cases r with
  | nil => cases h
  | cons n r =>
    have h : (if (nmB n && (r.map fun w => Txt.split w ":").all attrOk) = true then some (n, r.map fun w => toA (Txt.split w ":")) else none) = some q := h
    split at h
    · injection h with h
      subst h
      rw [List.length_cons] at hl
      refine ⟨hw n (List.mem_cons_self ..), by rw [List.length_map]; omega, fun a ha => ?_⟩
      obtain ⟨w, hw2, rfl⟩ := List.mem_map.mp ha
      have h1 := hw w (List.mem_cons_of_mem _ hw2)
      show ((Txt.split w ":").getD 0 Str.empty).length ≤ 10000
      cases e : Txt.split w ":" with
      | nil => exact absurd e (split_nilP _ _)
      | cons x l =>
        have := sub_lenP ":" w x (by rw [e]; simp)
        show x.length ≤ 10000
        omega
    · cases h
theorem ok_read_plan {f C : Addr} {fd : FuncData} (F : Fun K "read_plan" "read_plan" s_read_plan f fd) (Z : Tx mg ca) (exm : PySem.W.exmOne K (.ref (ca 2)) (.ref (ca 2)) = some true) (C_dimension_in : Cal P w K mg base 2 "dimension_in" ["words"] sp_dimension_in)
    (I_Plan : ICal P w K mg base 3 C "Plan" ["self", "dimensions", "measures"] (sp_Plan_init C (ca 2))) (X_NoText : XCal P w K mg base "NoText" (ca 11)) (XH_NoText : XCalH P w K mg base "NoText" (ca 11)) : FnOkF P w K mg base 5 f fd ["text"] (sp_read_planF C (ca 11)) := by
  refine fn2F F sc_read_plan (fun ss M P Z h => ?_) (fun cdv A outer s H E cxf => ?_)
  · obtain ⟨t, rfl, _⟩ := h; rfl
  · have cx := cxf.cx
    have N_NoPlan : Names (cx2F P w K mg base ["text", "parts", "measures", "word", "dimensions", "part", "words"] "read_plan" s_read_plan f cdv A outer s H E) "NoPlan" (.ref (ca 2)) := ⟨rfl, by decide, .inl Z.k_NoPlan⟩
    refine ⟨_, (qs_cons (qs_setLc (i := 1) enD_ok cx (qi_seq (qe_split (qv 0) qe_str)) (blkOk_by (own := [("part", 5)]) rfl) (fun _ _ _ _ _ => (qgn 5 cx.blk.nd)) (fun _ _ _ _ _ => qts_nil) (fun _ _ _ _ _ cx => (qe_split (qv 5) qe_str)))
    (qs_cons (qs_set 2 cx.nd (qe_lst qa_nil))
    (qs_consC (qs_if (qt_eq cx (qe_ix (qe_ix (qv 1) (qe_neg qe_int)) qe_int) qe_str) (qs_cons (qs_asg (qv 1) (qg_star 0 rfl (qgs_consS (qgn 1 cx.nd) (qgs_cons (qg_star 1 rfl (qgs_cons (qgn 3 cx.nd) (qgs_consS (qgn 2 cx.nd) qgs_nil))) qgs_nil))))
    (qs_one (qs_if (qt_eq cx (qv 2) (qe_lst qa_nil)) (qs_one (qs_raise cx (by omega) X_NoText rfl (qa_cons (qv 0) qa_nil))) qs_nil))) qs_nil)
    (qs_cons (qs_setLc (i := 4) enD_ok cx (qi_seq (qv 1)) (blkOk_by (own := [("words", 6)]) rfl) (fun _ _ _ _ _ => (qgn 6 cx.blk.nd)) (fun _ _ _ _ _ => qts_nil) (fun _ _ _ _ _ cx => (qe_ifE (qt_eq cx (qe_ix (qv 6) qe_int) qe_str) (qe_call cx C_dimension_in (by omega) rfl (qa_cons (qe_sl (qv 6) (qo_some qe_int) qo_none) qa_nil)) qe_non)))
    (qs_cons (qs_if (qt_in cx qe_non (qv 4)) (qs_one (qs_raise cx (by omega) X_NoText rfl (qa_cons (qv 0) qa_nil))) qs_nil)
    (qs_one (qs_tryR cxf rfl rfl N_NoPlan (fun hd => L2H.passesAt_of rfl hd) (fun W pn xe cx => (qs_one (qs_ret (qe_make cx I_Plan (by omega) rfl (qa_cons (qv 4) (qa_cons (qv 2) qa_nil)))))) (fun a pn hot tk => (qs_cons (qs_raiseFN hot tk (L2H.roomH_mark (cx.room.mono (by omega)) _) XH_NoText rfl (qa_cons (qv 0) qa_nil)) qs_nil))))))))), ?_⟩
    rintro ss M Pq Z ⟨t, rfl, sm, k⟩
    have hlen := sm.len
    have hpl := sm.parts
    have hwd := sm.words
    have el : (readParts t).length = (Txt.split t "; ").length := List.length_map _
    have eparts : ((Txt.split t "; ").map fun p => PyData.list (strsD (Txt.split p " "))) = (readParts t).map fun ws => PyData.list (strsD ws) := by
      unfold readParts
      rw [List.map_map]
      rfl
    have hsub := sub_len "; " t
    refine ⟨⟨_, rfl⟩, by decide +kernel, size15 (by omega), _, rfl, lc_mapL (Txt.split t "; ") (fun p => .s p) (fun p => .list (strsD (Txt.split p " "))) (by rw [strsD, List.map_map]; rfl) (Nat.lt_of_le_of_lt hpl (by decide)) rfl (fun p hp Q k2 => ?_) ?_⟩
    · exact ⟨⟨_, rfl⟩, by decide +kernel, size15 (by have := hsub p hp; omega), k2⟩
    rw [eparts]
    have hne : ∀ p, p ∈ readParts t → p ≠ [] := fun p hp z => by
      unfold readParts at hp
      obtain ⟨q, _, rfl⟩ := List.mem_map.mp hp
      exact split_nilP _ _ z
    have hL : readParts t ≠ [] := fun z => by
      unfold readParts at z
      exact split_nilP _ _ (List.map_eq_nil_iff.mp z)
    unfold readPlan at k
    rw [← el] at hpl
    obtain ⟨L, hLe⟩ : ∃ L, L = readParts t := ⟨_, rfl⟩
    rw [← hLe] at hwd hpl hne hL k ⊢
    clear hLe
    obtain ⟨i, last, h⟩ : ∃ i last, L = i ++ [last] := by
      rcases List.eq_nil_or_concat L with h | ⟨i, last, h⟩
      · exact absurd h hL
      · exact ⟨i, last, by rw [h, List.concat_eq_append]⟩
    subst h
    have hlast := hne last (by simp)
    cases last with
    | nil => exact absurd rfl hlast
    | cons wd r =>
      have epre : readPre (i ++ [wd :: r]) = if wd = "sum" then (if r = [] then none else some (i, r)) else some (i ++ [wd :: r], []) := by
        unfold readPre
        rw [List.getLast?_concat]
        show (if wd = "sum" then (if r = [] then none else some ((i ++ [wd :: r]).dropLast, r)) else some (i ++ [wd :: r], [])) = _
        rw [List.dropLast_concat]
      rw [epre] at k
      refine ⟨fun ρ M' => M' = M ∧ ∃ (pp : List (List Str)) (ms : List Str) (c3 : Option S), (∀ ws, ws ∈ pp → ws ∈ i ++ [wd :: r]) ∧ pp.length ≤ 10000 ∧ (ms.length ≤ 10000 ∧ ∀ m, m ∈ ms → m.length ≤ 10000) ∧
        (match (match allSome (pp.map dimOf) with | none => (none : Option (List Part × List Str)) | some ps => if planFault ps ms = none then some (ps, ms) else none) with
          | none => ∀ M', Gw M M' → Z (ca 11) (.s t) M'
          | some z => ∀ x M', M x = none → Gw M M' → PlanAt C M' x z.1 z.2 → Pq (.a x) M') ∧
        ρ = [some (.s t), some (.d (.list (pp.map fun ws => PyData.list (strsD ws)))), some (.d (.list (strsD ms))), c3, none, none, none], ?_, ?_⟩
      · rw [List.map_append]
        refine ⟨_, atI_lastS _ _, ?_⟩
        refine ⟨_, atI_zero _ _, ?_⟩
        refine byB (fun h => ?_) (fun h => ?_) <;> rw [eqv_str] at h
        · have h := of_decide_eq_true h
          rw [if_pos h] at k
          have hrl := hwd _ (List.mem_append_right _ (List.mem_cons_self ..))
          rw [List.length_cons] at hrl
          rw [List.length_append] at hpl
          refine star_init (i.map fun ws => PyData.list (strsD ws)) [.d (.list (strsD (wd :: r)))] (.inl (by show some _ = _; rw [List.map_append]; rfl)) (by rw [List.length_map]; show _ + 1 ≤ _; simp at hpl; omega) ?_
          refine star_end [.s wd] (strsD r) (.inl rfl) (by show 1 + _ ≤ _; unfold strsD; rw [List.length_map]; omega) ?_
          refine ⟨_, _, .inl rfl, .inl rfl, depth_nil _, ?_⟩
          refine byB (fun h2 => ?_) (fun h2 => ?_) <;> rw [eqv_nil] at h2
          · have hr0 : r = [] := by
              cases r with
              | nil => rfl
              | cons _ _ => cases h2
            rw [if_pos hr0] at k
            exact k M Gw.refl
          · have hr0 : r ≠ [] := fun z => by subst z; cases h2
            rw [if_neg hr0] at k
            exact ⟨rfl, i, r, _, fun ws hw => List.mem_append_left _ hw, by simp at hpl; omega, ⟨by omega, fun m hm => hrl.2 m (List.mem_cons_of_mem _ hm)⟩, k, rfl⟩
        · have h := of_decide_eq_false h
          rw [if_neg h] at k
          refine ⟨rfl, i ++ [wd :: r], [], none, fun ws hw => hw, hpl, ⟨by simp, fun m hm => by cases hm⟩, k, ?_⟩
          rw [List.map_append]
          rfl
      · rintro ρ M' ⟨rfl, pp, ms, c3, hppw, hppl, hms, k, rfl⟩
        refine ⟨_, rfl, lc_mapL pp (fun ws => .d (.list (strsD ws))) (fun ws => dimD (dimOf ws)) (by rw [List.map_map]; rfl) (Nat.lt_of_le_of_lt hppl (by decide)) rfl (fun ws hws Q k2 => ?_) ?_⟩
        · obtain ⟨hw1, hw2⟩ := hwd ws (hppw ws hws)
          cases ws with
          | nil => exact absurd rfl (hne [] (hppw [] hws))
          | cons wd r =>
            refine ⟨_, atI_zero _ _, ?_⟩
            have k2 : Q (.d (dimD (if wd = "dim" then dimIn r else none))) M' := k2
            refine byB (fun h => ?_) (fun h => ?_) <;> rw [eqv_str] at h
            · have h := of_decide_eq_true h
              rw [if_pos h] at k2
              refine ⟨_, .inl rfl, ?_⟩
              rw [show strsD (wd :: r) = .str wd :: strsD r from rfl, cut_tailS]
              rw [List.length_cons] at hw1
              exact ⟨r, rfl, by omega, fun w hw => hw2 w (List.mem_cons_of_mem _ hw), k2⟩
            · have h := of_decide_eq_false h
              rw [if_neg h] at k2
              exact k2
        · have ed : (pp.map fun ws => dimD (dimOf ws)) = (pp.map dimOf).map dimD := by rw [List.map_map]; rfl
          rw [ed]
          have en : (((pp.map dimOf).map dimD).any fun y => PyData.eqv y .none) = (allSome (pp.map dimOf)).isNone := by
            rw [← allSome_anyD, List.any_map]
            congr 1
            funext o
            exact none_dim o
          refine ⟨_, _, .inl rfl, .inl (.inl rfl), by simp [PyData.depth], ?_⟩
          rw [en]
          cases ea : allSome (pp.map dimOf) with
          | none =>
            rw [ea] at k
            exact k M' Gw.refl
          | some ps =>
            rw [ea] at k
            have hps := allSome_map ea
            have lps : ps.length ≤ 10000 := by
              have := congrArg List.length hps
              rw [List.length_map, List.length_map] at this
              omega
            have psm : PlanSm ps ms := ⟨lps, hms.1, hms.2, fun q hq => by
              have hq2 : some q ∈ pp.map dimOf := by rw [hps]; exact List.mem_map_of_mem hq
              obtain ⟨ws, hws, e⟩ := List.mem_map.mp hq2
              obtain ⟨hw1, hw2⟩ := hwd ws (hppw ws hws)
              cases ws with
              | nil => cases e
              | cons wd r =>
                have e : (if wd = "dim" then dimIn r else none) = some q := e
                split at e
                · rw [List.length_cons] at hw1
                  exact dimIn_sm e (by omega) fun w hw => hw2 w (List.mem_cons_of_mem _ hw)
                · cases e⟩
            have ed2 : (pp.map dimOf).map dimD = partsD ps := by
              rw [hps, List.map_map]
              rfl
            rw [ed2]
            refine fun x hx => ⟨x, ps, ms, _, rfl, .inl rfl, mput_same, psm, ?_⟩
            have k : (match (if planFault ps ms = none then some (ps, ms) else none) with
              | none => ∀ M'', Gw M' M'' → Z (ca 11) (.s t) M''
              | some z => ∀ x M'', M' x = none → Gw M' M'' → PlanAt C M'' x z.1 z.2 → Pq (.a x) M'') := k
            cases ef : planFault ps ms with
            | none =>
              rw [ef, if_pos rfl] at k
              rw [mput2]
              exact ⟨rfl, k x _ hx (Gw.refl.put hx) mput_same⟩
            | some w =>
              rw [ef, if_neg (by simp)] at k
              refine ⟨true, exm, ?_⟩
              exact k _ (Gw.refl.put hx)
end
end K41
set_option Elab.async false
set_option linter.all false
set_option maxRecDepth 100000
set_option maxHeartbeats 1000000
set_option pp.maxSteps 1200
namespace K41
open PySem PySem.Spec PyProof.Rows L2 Lv
section
variable {P : Program} {w : World} {K : PySem.W.Frag} {mg : Str → Option Value} {base : Heap} {ca : Nat → Addr}
theorem split_nil (x y : Str) : Txt.split x y ≠ [] := split_nilP x y
theorem len_cps (x : Str) : x.length = x.cps.toList.length := (Array.length_toList).symm
def wt (k : Nat) (ps : List Str) : Nat := (ps.map (·.length)).sum + ps.length * k
theorem wt_nil (k : Nat) : wt k [] = 0 := by simp [wt]
theorem wt_cons (k : Nat) (x : Str) (r : List Str) : wt k (x :: r) = x.length + k + wt k r := by
  unfold wt
  rw [List.map_cons, List.sum_cons, List.length_cons, Nat.succ_mul]
  omega
theorem wt_app (k : Nat) (a b : List Str) : wt k (a ++ b) = wt k a + wt k b := by
  induction a with
  | nil => rw [List.nil_append, wt_nil, Nat.zero_add]
  | cons x r ih => rw [List.cons_append, wt_cons, wt_cons, ih]; omega
theorem wt_mem {k : Nat} {x : Str} : ∀ {ps : List Str}, x ∈ ps → x.length + k ≤ wt k ps
  | a :: r, h => by
    rw [wt_cons]
    rcases List.mem_cons.mp h with rfl | h
    · omega
    · have := wt_mem (k := k) h; omega
theorem wt_take (k n : Nat) (ps : List Str) : wt k (ps.take n) ≤ wt k ps := by
  have h := wt_app k (ps.take n) (ps.drop n)
  rw [List.take_append_drop] at h
  omega
theorem wt_drop (k n : Nat) (ps : List Str) : wt k (ps.drop n) ≤ wt k ps := by
  have h := wt_app k (ps.take n) (ps.drop n)
  rw [List.take_append_drop] at h
  omega
theorem wt_insert (k n : Nat) (ps : List Str) (x : Str) : wt k (ps.take n ++ [x] ++ ps.drop n) = wt k ps + (x.length + k) := by
  have h := wt_app k (ps.take n) (ps.drop n)
  rw [List.take_append_drop] at h
  rw [wt_app, wt_app, wt_cons, wt_nil]
  omega
theorem wt_set (k : Nat) (x : Str) : ∀ (n : Nat) (ps : List Str), wt k (ps.set n x) ≤ wt k ps + x.length
  | _, [] => by simp [wt_nil]
  | 0, a :: r => by rw [List.set_cons_zero, wt_cons, wt_cons]; omega
  | n + 1, a :: r => by
    have := wt_set k x n r
    rw [List.set_cons_succ, wt_cons, wt_cons]; omega
theorem wt_erase (k : Nat) : ∀ (n : Nat) (ps : List Str), wt k (ps.eraseIdx n) ≤ wt k ps
  | _, [] => by simp
  | 0, a :: r => by rw [List.eraseIdx_cons_zero, wt_cons]; omega
  | n + 1, a :: r => by
    have := wt_erase k n r
    rw [List.eraseIdx_cons_succ, wt_cons, wt_cons]; omega
theorem join_wt (y : Str) : ∀ ps : List Str, ps ≠ [] → (Txt.join y ps).length + y.length = wt y.length ps := by
  intro ps
  rw [TL.join_eq]
  induction ps with
  | nil => intro h; exact absurd rfl h
  | cons x r ih =>
    intro _
    cases r with
    | nil => rw [wt_cons, wt_nil]; show x.length + y.length = _; omega
    | cons z r =>
      have h := ih (by simp)
      show (x ++ y ++ Str.join y (z :: r)).length + y.length = _
      rw [app_len, app_len, wt_cons]
      omega
theorem split_wt (t y : Str) : wt y.length (Txt.split t y) = t.length + y.length := by
  rw [← join_wt y _ (split_nil t y), TL.join_eq, PySem.StrLaws.join_split]
theorem join_le (y : Str) (ps : List Str) : (Txt.join y ps).length ≤ wt y.length ps := joined_len y ps
theorem cutS_len (z : Str) (lo hi : Option Int) : (cutS z lo hi).length ≤ z.length := by
  rw [len_cps, len_cps z]
  unfold L2.cutS
  rw [List.toList_toArray, List.length_take, List.length_drop]
  omega
theorem cutD_strs (ps : List Str) (lo hi : Option Int) : ∃ a b, cutD (strsD ps) lo hi = strsD ((ps.drop a).take b) := by
  unfold Lv.cutD strsD
  exact ⟨_, _, by rw [List.map_take, List.map_drop]⟩
theorem wt_part (k a b : Nat) (ps : List Str) : wt k ((ps.drop a).take b) ≤ wt k ps := Nat.le_trans (wt_take k b _) (wt_drop k a ps)
abbrev s__law_sign : Stmt := top 34
theorem sc__law_sign : FnScope ["tray", "some"] ["tray"] (defScope s__law_sign) := ⟨rfl, rfl, rfl, by decide +kernel, rfl, by decide +kernel, by decide +kernel⟩
inductive sp__law_sign (ss : List S) (M : Mem) (P : K2) (Z : X2) : Prop
  | mk (p g : Addr) (n : Nat) (h0 : ss = [.a p]) (h1 : Ty M p g n) (h2 : n < 999000) (h3 : ∀ (c : Nat) (M' : Mem), Kp p g M M' → Ty M' p g (n + 2) → P (.s ⟨#[c]⟩) M') : sp__law_sign  ss M P Z
theorem atI_str {x : Str} {m : Nat} {r : Int} (e : x.length = m) (h0 : 0 ≤ r) (h1 : r < (m : Int)) : ∃ c, atI x.cps.toList r = some c := by
  obtain ⟨c, h, _⟩ := atI_some (xs := x.cps.toList) h0 (by rw [Array.length_toList]; show r < ((x.length : Nat) : Int); rw [e]; exact h1)
  exact ⟨c, h⟩
theorem ok__law_sign {f : Addr} {fd : FuncData} (F : Fun K "_law_sign" "_law_sign" s__law_sign f fd) (Z : Tx mg ca) (C__law_draw : Cal P w K mg base 1 "_law_draw" ["tray", "many"] sp__law_draw) : FnOk2 P w K mg base 2 f fd ["tray"] sp__law_sign := by
  refine fn2 F sc__law_sign (fun ss M P Z h => ?_) (fun cdv A outer s H E cx => ?_)
  · obtain ⟨p, g, n, rfl, _⟩ := h; rfl
  · refine ⟨_, (qs_cons (qs_if (qt_eq cx (qe_call cx C__law_draw (by omega) rfl (qa_cons (qv 0) (qa_cons qe_int qa_nil))) qe_int) (qs_cons (qs_set 1 cx.nd qe_str)
    (qs_one (qs_ret (qe_ix (qv 1) (qe_call cx C__law_draw (by omega) rfl (qa_cons (qv 0) (qa_cons (qe_len rfl Z.z_len (qa_cons (qv 1) qa_nil)) qa_nil))))))) qs_nil)
    (qs_cons (qs_set 1 cx.nd qe_str)
    (qs_cons (qs_set 1 cx.nd (qe_add (qv 1) qe_str))
    (qs_one (qs_ret (qe_ix (qv 1) (qe_call cx C__law_draw (by omega) rfl (qa_cons (qv 0) (qa_cons (qe_len rfl Z.z_len (qa_cons (qv 1) qa_nil)) qa_nil))))))))), ?_⟩
    rintro ss M Pq Z ⟨p, g, n, rfl, dk, hn, k⟩
    refine ⟨p, g, 2, n, rfl, by omega, by omega, dk, by omega, fun r1 M1 a0 a1 kp1 dk1 => ?_⟩
    refine byB (fun h => ?_) (fun h => ?_)
    · obtain ⟨m, hm, hm1, hm2⟩ : ∃ m, (" ,;:'-.0123456789abdefiklmnorstuwy" : Str).length = m ∧ 0 < m ∧ m < 100 := ⟨_, rfl, by decide +kernel, by decide +kernel⟩
      refine ⟨size15 (by omega), p, g, _, _, rfl, by omega, by omega, dk1, by omega, fun r2 M2 b0 b1 kp2 dk2 => ?_⟩
      obtain ⟨c, hc⟩ := atI_str hm b0 (by omega)
      exact ⟨size15 (by omega), c, hc, k c M2 (kp1.trans kp2) dk2⟩
    · have l1 : (" !\"#$&'()*+,-./0123456789:;<=>?@ABCDEFGHIJKLMNOPQRSTUVWXYZ[\\]^_`" : Str).length = 64 := by decide +kernel
      have l2 : ("abcdefghijklmnopqrstuvwxyz{|}~" : Str).length = 30 := by decide +kernel
      have l3 : (" !\"#$&'()*+,-./0123456789:;<=>?@ABCDEFGHIJKLMNOPQRSTUVWXYZ[\\]^_`" ++ "abcdefghijklmnopqrstuvwxyz{|}~" : Str).length = 94 := by rw [app_len, l1, l2]
      refine ⟨size15 (by omega), size15 (by omega), p, g, _, _, rfl, by omega, by omega, dk1, by omega, fun r2 M2 b0 b1 kp2 dk2 => ?_⟩
      obtain ⟨c, hc⟩ := atI_str l3 b0 (by omega)
      exact ⟨size15 (by omega), c, hc, k c M2 (kp1.trans kp2) dk2⟩
end
end K41
set_option Elab.async false
set_option linter.all false
set_option maxRecDepth 100000
set_option maxHeartbeats 1000000
set_option pp.maxSteps 1200
namespace K41
open PySem PySem.Spec PyProof.Rows L2 Lv
section
variable {P : Program} {w : World} {K : PySem.W.Frag} {mg : Str → Option Value} {base : Heap} {ca : Nat → Addr}
abbrev s__law_sign_spoilt : Stmt := top 35
theorem sc__law_sign_spoilt : FnScope ["tray", "text", "lot", "at", "sign"] ["tray", "text"] (defScope s__law_sign_spoilt) := ⟨rfl, rfl, rfl, by decide +kernel, rfl, by decide +kernel, by decide +kernel⟩
inductive sp__law_sign_spoilt (ss : List S) (M : Mem) (P : K2) (Z : X2) : Prop
  | mk (p g : Addr) (t : Str) (n : Nat) (h0 : ss = [.a p, .s t]) (h1 : t.length ≤ 200000) (h2 : Ty M p g n) (h3 : n < 998000) (h4 : ∀ (x : Str) (M' : Mem), x.length ≤ 2 * t.length + 1 → Kp p g M M' → Ty M' p g (n + 4) → P (.s x) M') : sp__law_sign_spoilt  ss M P Z
theorem ok__law_sign_spoilt {f : Addr} {fd : FuncData} (F : Fun K "_law_sign_spoilt" "_law_sign_spoilt" s__law_sign_spoilt f fd) (Z : Tx mg ca) (C__law_draw : Cal P w K mg base 1 "_law_draw" ["tray", "many"] sp__law_draw) (C__law_sign : Cal P w K mg base 2 "_law_sign" ["tray"] sp__law_sign) : FnOk2 P w K mg base 3 f fd ["tray", "text"] sp__law_sign_spoilt := by
  refine fn2 F sc__law_sign_spoilt (fun ss M P Z h => ?_) (fun cdv A outer s H E cx => ?_)
  · obtain ⟨p, g, t, n, rfl, _⟩ := h; rfl
  · refine ⟨_, (qs_cons (qs_set 2 cx.nd (qe_call cx C__law_draw (by omega) rfl (qa_cons (qv 0) (qa_cons qe_int qa_nil))))
    (qs_cons (qs_set 3 cx.nd (qe_call cx C__law_draw (by omega) rfl (qa_cons (qv 0) (qa_cons (qe_add (qe_len rfl Z.z_len (qa_cons (qv 1) qa_nil)) qe_int) qa_nil))))
    (qs_cons (qs_set 4 cx.nd (qe_ix (qe_lst (qa_cons qe_str (qa_cons (qe_call cx C__law_sign (by omega) rfl (qa_cons (qv 0) qa_nil)) qa_nil))) (qe_int1 rfl Z.z_int (qa_cons (qe_gt (qv 2) qe_int) qa_nil))))
    (qs_one (qs_ret (qe_add (qe_add (qe_sl (qv 1) qo_none (qo_some (qv 3))) (qv 4)) (qe_sl (qv 1) (qo_some (qe_add (qv 3) (qe_int1 rfl Z.z_int (qa_cons (qe_lt (qv 2) qe_int) qa_nil)))) qo_none))))))), ?_⟩
    rintro ss M Pq Z ⟨p, g, t, n, rfl, ht, dk, hn, k⟩
    refine ⟨p, g, 3, n, rfl, by omega, by omega, dk, by omega, fun lot M1 a0 a1 kp1 dk1 => ?_⟩
    refine ⟨size15 (by omega), p, g, _, _, rfl, by omega, by omega, dk1, by omega, fun pos M2 b0 b1 kp2 dk2 => ?_⟩
    refine ⟨p, g, _, rfl, dk2, by omega, fun c M3 kp3 dk3 => ?_⟩
    have kp := (kp1.trans kp2).trans kp3
    have pick : ∃ x : Str, x.length ≤ 1 ∧ atI [PyData.str "", .str ⟨#[c]⟩] (if decide (lot > 0) = true then 1 else 0) = some (.str x) := by
      by_cases h : lot > 0
      · rw [decide_eq_true h]; exact ⟨⟨#[c]⟩, Nat.le_refl 1, rfl⟩
      · rw [decide_eq_false h]; exact ⟨"", by decide +kernel, rfl⟩
    obtain ⟨x, hx, hp⟩ := pick
    refine ⟨_, hp, ?_⟩
    have c1 := cutS_len t none (some pos)
    have c2 := cutS_len t (some (pos + (if decide (lot < 2) = true then 1 else 0))) none
    refine ⟨size15 (by omega), size15 (by omega), size15 (by omega), size15 (by rw [app_len]; omega), ?_⟩
    exact k _ M3 (by rw [app_len, app_len]; omega) kp (dk3.grow (by omega))
end
end K41
set_option Elab.async false
set_option linter.all false
set_option maxRecDepth 100000
set_option maxHeartbeats 1000000
set_option pp.maxSteps 1200
namespace K41
open PySem PySem.Spec PyProof.Rows L2 Lv
section
variable {P : Program} {w : World} {K : PySem.W.Frag} {mg : Str → Option Value} {base : Heap} {ca : Nat → Addr}
abbrev s__law_joint_spoilt : Stmt := top 36
theorem sc__law_joint_spoilt : FnScope ["tray", "text", "joint", "parts", "at", "some", "other"] ["tray", "text"] (defScope s__law_joint_spoilt) := ⟨rfl, rfl, rfl, by decide +kernel, rfl, by decide +kernel, by decide +kernel⟩
inductive sp__law_joint_spoilt (ss : List S) (M : Mem) (P : K2) (Z : X2) : Prop
  | mk (p g : Addr) (t : Str) (n : Nat) (h0 : ss = [.a p, .s t]) (h1 : t.length ≤ 200000) (h2 : Ty M p g n) (h3 : n < 998000) (h4 : ∀ (x : Str) (M' : Mem), x.length ≤ 2 * t.length + 100 → Kp p g M M' → Ty M' p g (n + 3) → P (.s x) M') : sp__law_joint_spoilt  ss M P Z
def joints10 : List Str := ["; ", " ", ":", " ", "'", "dim ", "sum ", "kind ", "fact ", "forget "]
theorem joints_ok : ∀ x, x ∈ joints10 → 1 ≤ x.length ∧ x.length ≤ 7 ∧ (Txt.strip x).length ≤ 7 ∧ (Txt.rstrip x).length ≤ 7 := by decide +kernel
theorem ok__law_joint_spoilt {f : Addr} {fd : FuncData} (F : Fun K "_law_joint_spoilt" "_law_joint_spoilt" s__law_joint_spoilt f fd) (Z : Tx mg ca) (C__law_draw : Cal P w K mg base 1 "_law_draw" ["tray", "many"] sp__law_draw) : FnOk2 P w K mg base 2 f fd ["tray", "text"] sp__law_joint_spoilt := by
  refine fn2 F sc__law_joint_spoilt (fun ss M P Z h => ?_) (fun cdv A outer s H E cx => ?_)
  · obtain ⟨p, g, t, n, rfl, _⟩ := h; rfl
  · refine ⟨_, (qs_cons (qs_set 2 cx.nd (qe_ix (qe_lst (qa_cons qe_str (qa_cons qe_str (qa_cons qe_str (qa_cons qe_str (qa_cons qe_str (qa_cons qe_str (qa_cons qe_str (qa_cons qe_str (qa_cons qe_str (qa_cons qe_str qa_nil))))))))))) (qe_call cx C__law_draw (by omega) rfl (qa_cons (qv 0) (qa_cons qe_int qa_nil)))))
    (qs_cons (qs_set 3 cx.nd (qe_split (qv 1) (qv 2)))
    (qs_cons (qs_if (qt_eq cx (qe_len rfl Z.z_len (qa_cons (qv 3) qa_nil)) qe_int) (qs_one (qs_ret (qv 1))) qs_nil)
    (qs_cons (qs_set 4 cx.nd (qe_add qe_int (qe_call cx C__law_draw (by omega) rfl (qa_cons (qv 0) (qa_cons (qe_sub (qe_len rfl Z.z_len (qa_cons (qv 3) qa_nil)) qe_int) qa_nil)))))
    (qs_cons (qs_set 5 cx.nd (qe_lst (qa_cons (qe_add (qv 2) qe_str) (qa_cons (qe_add qe_str (qv 2)) (qa_cons (qe_strip (qv 2)) (qa_cons (qe_add (qv 2) (qv 2)) qa_nil))))))
    (qs_cons (qs_set 6 cx.nd (qe_ix (qe_add (qv 5) (qe_lst (qa_cons (qe_add (qv 2) qe_str) (qa_cons (qe_add (qe_rstrip (qv 2)) qe_str) (qa_cons qe_str (qa_cons qe_str qa_nil)))))) (qe_call cx C__law_draw (by omega) rfl (qa_cons (qv 0) (qa_cons qe_int qa_nil)))))
    (qs_one (qs_ret (qe_add (qe_add (qe_join (qv 2) (qe_sl (qv 3) qo_none (qo_some (qv 4)))) (qv 6)) (qe_join (qv 2) (qe_sl (qv 3) (qo_some (qv 4)) qo_none))))))))))), ?_⟩
    rintro ss M Pq Z ⟨p, g, t, n, rfl, ht, dk, hn, k⟩
    refine ⟨p, g, 10, n, rfl, by omega, by omega, dk, by omega, fun r1 M1 a0 a1 kp1 dk1 => ?_⟩
    obtain ⟨x, hx, hm⟩ := atI_some (xs := strsD joints10) a0 (show r1 < 10 from a1)
    obtain ⟨j, hj, rfl⟩ := List.mem_map.mp hm
    obtain ⟨j1, j2, j3, j4⟩ := joints_ok j hj
    refine ⟨_, hx, ?_⟩
    refine ⟨⟨_, rfl⟩, by have : ¬ j.length = 0 := by omega
                         simpa using this, size15 (by omega), ?_⟩
    have hwt := split_wt t j
    have hne := split_nil t j
    revert hwt hne
    generalize Txt.split t j = ps
    intro hwt hne
    have lps : (strsD ps).length = ps.length := List.length_map _
    refine ⟨_, rfl, ?_⟩
    refine byB (fun h => ?_) (fun h => ?_)
    · exact k t M1 (by omega) kp1 (dk1.grow (by omega))
    · rw [eqv_int] at h
      have h := of_decide_eq_false h
      have hps : 2 ≤ ps.length := by
        cases ps with
        | nil => exact absurd rfl hne
        | cons a r => rw [lps] at h; simp only [List.length_cons] at h ⊢; omega
      have hpl : ps.length ≤ 300000 := by
        have : ps.length * j.length ≤ wt j.length ps := Nat.le_add_left _ _
        have : ps.length * 1 ≤ ps.length * j.length := Nat.mul_le_mul_left _ j1
        omega
      refine ⟨_, rfl, p, g, _, _, rfl, by omega, by omega, dk1, by omega, fun r2 M2 b0 b1 kp2 dk2 => ?_⟩
      have b1 : (" " : Str).length = 1 := by decide +kernel
      have b2 : (" - " : Str).length = 3 := by decide +kernel
      have b3 : ("-" : Str).length = 1 := by decide +kernel
      have b4 : ("" : Str).length = 0 := by decide +kernel
      refine ⟨size15 (by rw [b1]; omega), size15 (by rw [b1]; omega), ⟨_, rfl⟩, size15 (by omega), size15 (by omega), ?_⟩
      refine ⟨size15 (by rw [b3]; omega), ⟨_, rfl⟩, size15 (by omega), size15 (by rw [b2]; omega), _, _, .inl rfl, .inl rfl, size15 (by show 4 + 4 ≤ _; decide), p, g, 8, _, rfl, by omega, by omega, dk2, by omega, fun r3 M3 c0 c1 kp3 dk3 => ?_⟩
      obtain ⟨y, hy, hym⟩ := atI_some (xs := strsD [j ++ " ", " " ++ j, Txt.strip j, j ++ j, j ++ "-", Txt.rstrip j ++ " - ", "-", ""]) c0 (show r3 < 8 from c1)
      obtain ⟨o, ho, rfl⟩ := List.mem_map.mp hym
      have ol : o.length ≤ 14 := by
        simp only [List.mem_cons, List.not_mem_nil, or_false] at ho
        rcases ho with rfl | rfl | rfl | rfl | rfl | rfl | rfl | rfl <;> (try rw [app_len]) <;> omega
      refine ⟨_, hy, ?_⟩
      obtain ⟨a1, a2, ea⟩ := cutD_strs ps none (some (1 + r2))
      obtain ⟨e1, e2, ee⟩ := cutD_strs ps (some (1 + r2)) none
      have w1 := wt_part j.length a1 a2 ps
      have w2 := wt_part j.length e1 e2 ps
      have l1 := join_le j ((ps.drop a1).take a2)
      have l2 := join_le j ((ps.drop e1).take e2)
      refine ⟨⟨_, rfl⟩, _, .inl rfl, (ps.drop a1).take a2, .inl (.inl (by rw [ea])), ?_, ?_⟩
      · show wt j.length _ ≤ _
        omega
      refine ⟨size15 (by omega), ⟨_, rfl⟩, _, .inl rfl, (ps.drop e1).take e2, .inl (.inl (by rw [ee])), ?_, ?_⟩
      · show wt j.length _ ≤ _
        omega
      refine ⟨size15 (by rw [app_len]; omega), ?_⟩
      exact k _ M3 (by rw [app_len, app_len]; omega) ((kp1.trans kp2).trans kp3) (dk3.grow (by omega))
end
end K41
set_option Elab.async false
set_option linter.all false
set_option maxRecDepth 100000
set_option maxHeartbeats 1000000
set_option pp.maxSteps 1200
namespace K41
open PySem PySem.Spec PyProof.Rows L2 Lv
section
variable {P : Program} {w : World} {K : PySem.W.Frag} {mg : Str → Option Value} {base : Heap} {ca : Nat → Addr}
abbrev s__law_words_spoilt : Stmt := top 37
theorem sc__law_words_spoilt : FnScope ["tray", "text", "some", "amid", "parts", "at", "other", "lot", "kept"] ["tray", "text", "some"] (defScope s__law_words_spoilt) := ⟨rfl, rfl, rfl, by decide +kernel, rfl, by decide +kernel, by decide +kernel⟩
inductive sp__law_words_spoilt (ss : List S) (M : Mem) (P : K2) (Z : X2) : Prop
  | mk (p g : Addr) (t : Str) (sm : List Str) (n : Nat) (h0 : ss = [.a p, .s t, .d (.list (strsD sm))]) (h1 : t.length ≤ 200000) (h2 : 1 ≤ sm.length) (h3 : sm.length ≤ 100) (h4 : (∀ x, x ∈ sm → x.length ≤ 61)) (h5 : Ty M p g n) (h6 : n < 998000) (h7 : ∀ (x : Str) (M' : Mem), x.length ≤ 2 * t.length + 100 → Kp p g M M' → Ty M' p g (n + 5) → P (.s x) M') : sp__law_words_spoilt  ss M P Z
theorem seqIxW {r : Int} {len : Nat} (h0 : 0 ≤ r) (h1 : r < len) : seqIndex? r len = some r.toNat := by
  have h2 : ¬ r < 0 := by omega
  unfold seqIndex?
  rw [if_neg h2]
  simp only [decide_eq_true h0, decide_eq_true h1, Bool.and_self, if_true]
theorem ixN_nat {r : Int} {len : Nat} (h0 : 0 ≤ r) (h1 : r < len) : ixN len r = some r.toNat := by
  unfold ixN
  rw [if_pos h0, if_pos h1]
theorem mapErase {α β : Type} (f : α → β) : ∀ (l : List α) (k : Nat), (l.map f).eraseIdx k = (l.eraseIdx k).map f
  | [], _ => rfl
  | x :: t, 0 => rfl
  | x :: t, k + 1 => by
    rw [List.map_cons, List.eraseIdx_cons_succ, List.eraseIdx_cons_succ, List.map_cons, mapErase f t k]
theorem wt_two (k : Nat) (ps : List Str) {i j : Nat} (hi : i < ps.length) (hj : j < ps.length) : ps[i].length + ps[j].length + 2 * k ≤ wt k ps ∨ i = j := by
  by_cases e : i = j
  · exact .inr e
  · refine .inl ?_
    have es : ps = ps.take i ++ ps[i] :: ps.drop (i + 1) := by rw [List.getElem_cons_drop, List.take_append_drop]
    have hw : wt k ps = wt k (ps.take i) + (ps[i].length + k + wt k (ps.drop (i + 1))) := by
      conv => lhs; rw [es]
      rw [wt_app, wt_cons]
    have hm : ps[j] ∈ ps.take i ∨ ps[j] ∈ ps.drop (i + 1) := by
      rcases Nat.lt_or_gt_of_ne e with h | h
      · right
        rw [List.mem_drop_iff_getElem]
        exact ⟨j - (i + 1), by omega, by congr 1; omega⟩
      · left
        rw [List.mem_take_iff_getElem]
        exact ⟨j, by omega, rfl⟩
    rcases hm with h | h
    · have := wt_mem (k := k) h; omega
    · have := wt_mem (k := k) h; omega
theorem ok__law_words_spoilt {f : Addr} {fd : FuncData} (F : Fun K "_law_words_spoilt" "_law_words_spoilt" s__law_words_spoilt f fd) (Z : Tx mg ca) (C__law_draw : Cal P w K mg base 1 "_law_draw" ["tray", "many"] sp__law_draw) : FnOk2 P w K mg base 2 f fd ["tray", "text", "some"] sp__law_words_spoilt := by
  refine fn2 F sc__law_words_spoilt (fun ss M P Z h => ?_) (fun cdv A outer s H E cx => ?_)
  · obtain ⟨p, g, t, sm, n, rfl, _⟩ := h; rfl
  · refine ⟨_, (qs_cons (qs_set 3 cx.nd (qe_ix (qe_lst (qa_cons qe_str (qa_cons qe_str (qa_cons qe_str (qa_cons qe_str qa_nil))))) (qe_call cx C__law_draw (by omega) rfl (qa_cons (qv 0) (qa_cons qe_int qa_nil)))))
    (qs_cons (qs_set 4 cx.nd (qe_splitM (qv 1) (qv 3)))
    (qs_cons (qs_set 5 cx.nd (qe_call cx C__law_draw (by omega) rfl (qa_cons (qv 0) (qa_cons (qe_len rfl Z.z_len (qa_cons (qv 4) qa_nil)) qa_nil))))
    (qs_cons (qs_set 6 cx.nd (qe_call cx C__law_draw (by omega) rfl (qa_cons (qv 0) (qa_cons (qe_len rfl Z.z_len (qa_cons (qv 4) qa_nil)) qa_nil))))
    (qs_cons (qs_set 7 cx.nd (qe_call cx C__law_draw (by omega) rfl (qa_cons (qv 0) (qa_cons qe_int qa_nil))))
    (qs_consC (qs_if (qt_eq cx (qv 7) qe_int) (qs_one (qs_expr (qe_popAt (qv 4) (qa_cons (qv 5) qa_nil)))) (qs_one (qs_if (qt_eq cx (qv 7) qe_int) (qs_one (qs_expr (qe_insert (qv 4) (qa_cons (qv 6) (qa_cons (qe_ix (qv 4) (qv 5)) qa_nil))))) (qs_one (qs_if (qt_eq cx (qv 7) qe_int) (qs_cons (qs_set 8 cx.nd (qe_ix (qv 4) (qv 5)))
    (qs_cons (qs_asg (qe_ix (qv 4) (qv 6)) (qg_subL (qv 4) (qv 5) (pg_sub (qv 4) (qv 5) set_list)))
    (qs_one (qs_asg (qv 8) (qg_subL (qv 4) (qv 6) (pg_sub (qv 4) (qv 6) set_list)))))) (qs_one (qs_asg (qe_ix (qv 2) (qe_call cx C__law_draw (by omega) rfl (qa_cons (qv 0) (qa_cons (qe_len rfl Z.z_len (qa_cons (qv 2) qa_nil)) qa_nil)))) (qg_subL (qv 4) (qv 5) (pg_sub (qv 4) (qv 5) set_list)))))))))
    (qs_one (qs_ret (qe_join (qv 3) (qv 4)))))))))), ?_⟩
    rintro ss M Pq Z ⟨p, g, t, sm, n, rfl, ht, so1, so2, so3, dk, hn, k⟩
    refine ⟨p, g, 4, n, rfl, by omega, by omega, dk, by omega, fun r1 M1 a0 a1 kp1 dk1 => ?_⟩
    obtain ⟨x, hx, hm⟩ := atI_some (xs := strsD ["; ", " ", " ", ":"]) a0 (show r1 < 4 from a1)
    obtain ⟨j, hj, rfl⟩ := List.mem_map.mp hm
    have j12 : ∀ x, x ∈ ([("; " : Str), " ", " ", ":"] : List Str) → 1 ≤ x.length ∧ x.length ≤ 2 := by decide +kernel
    obtain ⟨j1, j2⟩ := j12 j hj
    refine ⟨_, hx, ?_⟩
    refine ⟨⟨_, rfl⟩, by have : ¬ j.length = 0 := by omega
                         simpa using this, size15 (by omega), fun u hu => ?_⟩
    have hwt := split_wt t j
    have hne := split_nil t j
    have up : u ≠ p := (ne_of_none dk1.sp hu).symm
    have ug : u ≠ g := (ne_of_none dk1.sg hu).symm
    revert hwt hne
    generalize Txt.split t j = ps
    intro hwt hne
    have lps : ((strsD ps).map S.d).length = ps.length := by unfold strsD; rw [List.length_map, List.length_map]
    have hpl : ps.length ≤ 300000 := by
      have : ps.length * j.length ≤ wt j.length ps := Nat.le_add_left _ _
      have : ps.length * 1 ≤ ps.length * j.length := Nat.mul_le_mul_left _ j1
      omega
    have h1 : 1 ≤ ps.length := by
      cases ps with
      | nil => exact absurd rfl hne
      | cons a r => simp
    have hm0 : mput M1 u (.lst ((strsD ps).map S.d)) u = some (.lst ((strsD ps).map S.d)) := mput_same
    have dkA := dk1.put (o := .lst ((strsD ps).map S.d)) hu
    have kpA : Kp p g M (mput M1 u (.lst ((strsD ps).map S.d))) := fun q o e qp qg => by
      have := kp1 q o e qp qg
      rw [mput_ne fun z => by subst z; rw [hu] at this; cases this]
      exact this
    revert hm0 dkA kpA
    generalize mput M1 u (.lst ((strsD ps).map S.d)) = M2
    intro hm0 dkA kpA
    refine ⟨_, lenOf_of hm0, p, g, _, _, rfl, by omega, by omega, dkA, by omega, fun at_ M3 b0 b1 kp3 dk3 => ?_⟩
    have hm3 := kp3 _ _ hm0 up ug
    refine ⟨_, lenOf_of hm3, p, g, _, _, rfl, by omega, by omega, dk3, by omega, fun ot M4 c0 c1 kp4 dk4 => ?_⟩
    have hm4 := kp4 _ _ hm3 up ug
    refine ⟨p, g, 4, _, rfl, by omega, by omega, dk4, by omega, fun lot M5 d0 d1 kp5 dk5 => ?_⟩
    have hm5 := kp5 _ _ hm4 up ug
    have lsm : (strsD sm).length = sm.length := List.length_map _
    have kp := ((kpA.trans kp3).trans kp4).trans kp5
    have hat : at_.toNat < ps.length := by omega
    have hot : ot.toNat < ps.length := by omega
    have g1 : ∀ i : Nat, (h : i < ps.length) → ((strsD ps).map S.d)[i]? = some (.s ps[i]) := fun i h => by
      unfold strsD
      rw [List.map_map, List.getElem?_map, List.getElem?_eq_getElem h]
      rfl
    have gA : ∀ r : Int, 0 ≤ r → (h : r.toNat < ps.length) → atI ((strsD ps).map S.d) r = some (.s ps[r.toNat]) := fun r h0 h => by
      unfold atI
      rw [lps, ixN_nat h0 (by omega)]
      exact g1 _ h
    have m1 : ∀ i : Nat, (h : i < ps.length) → ps[i].length + j.length ≤ t.length + j.length := fun i h => hwt ▸ wt_mem (List.getElem_mem h)
    have keep : ∀ (M' : Mem) (o : MO), Kp p g M M' → Kp p g M (mput M' u o) := fun M' o h q x e qp qg => by
      rw [mput_ne fun z => by subst z; have := (kp1 q x e qp qg); rw [hu] at this; cases this]
      exact h q x e qp qg
    refine ⟨fun ρ M' => ∃ (ps' : List Str) (c : Option S), ρ = [some (.a p), some (.s t), some (.d (.list (strsD sm))), some (.s j), some (.a u), some (.i at_), some (.i ot), some (.i lot), c] ∧ M' u = some (.lst ((strsD ps').map S.d)) ∧ wt j.length ps' ≤ 2 * t.length + 90 ∧ Kp p g M M' ∧ Ty M' p g (n + 5), ?_, ?_⟩
    · refine byB (fun h => ?_) (fun h => ?_) <;> rw [eqv_int] at h
      · refine ⟨isL_of hm5, _, at_.toNat, _, hm5, by omega, by omega, by rw [lps]; exact seqIxW b0 (by omega), g1 _ hat, ?_⟩
        refine ⟨ps.eraseIdx at_.toNat, _, rfl, ?_, Nat.le_trans (wt_erase _ _ _) (by omega), keep _ _ kp, (dk5.putne up.symm ug.symm).grow (by omega)⟩
        rw [mput_same]
        unfold strsD
        rw [mapErase, mapErase]
      · refine byB (fun h2 => ?_) (fun h2 => ?_) <;> rw [eqv_int] at h2
        · refine ⟨isL_of hm5, _, _, hm5, gA _ b0 hat, _, hm5, by rw [lps]; exact size15 (by omega), c0, by omega, ?_⟩
          have := m1 _ hat
          refine ⟨ps.take ot.toNat ++ [ps[at_.toNat]] ++ ps.drop ot.toNat, _, rfl, ?_, by rw [wt_insert]; omega, keep _ _ kp, (dk5.putne up.symm ug.symm).grow (by omega)⟩
          rw [mput_same]
          unfold strsD
          rw [List.map_append, List.map_append, List.map_append, List.map_append, List.map_take, List.map_take, List.map_drop, List.map_drop]
          rfl
        · refine byB (fun h3 => ?_) (fun h3 => ?_) <;> rw [eqv_int] at h3
          · have q3 := wt_two j.length ps hat hot
            have w1 := wt_set j.length ps[ot.toNat] at_.toNat ps
            have w2 := wt_set j.length ps[at_.toNat] ot.toNat (ps.set at_.toNat ps[ot.toNat])
            refine ⟨_, _, hm5, gA _ b0 hat, _, _, hm5, gA _ c0 hot, _, at_.toNat, hm5, by rw [lps]; exact ixN_nat b0 (by omega), ?_⟩
            refine ⟨_, ot.toNat, mput_same, by rw [List.length_set, lps]; exact ixN_nat c0 (by omega), ?_⟩
            refine ⟨(ps.set at_.toNat ps[ot.toNat]).set ot.toNat ps[at_.toNat], _, rfl, ?_, by
              rcases q3 with q3 | q3
              · omega
              · have e1 : ps[at_.toNat] = ps[ot.toNat] := by congr 1
                rw [← e1, List.set_getElem_self]
                rw [← q3, List.set_getElem_self]
                omega, keep _ _ (keep _ _ kp), ((dk5.putne up.symm ug.symm).putne up.symm ug.symm).grow (by omega)⟩
            rw [mput_same]
            unfold strsD
            rw [List.map_set, List.map_set, List.map_set, List.map_set]
          · refine ⟨_, rfl, p, g, _, _, rfl, by omega, by omega, dk5, by omega, fun r6 M6 e0 e1 kp6 dk6 => ?_⟩
            obtain ⟨y, hy, hym⟩ := atI_some (xs := strsD sm) e0 e1
            obtain ⟨o, ho, rfl⟩ := List.mem_map.mp hym
            have hm6 := kp6 _ _ hm5 up ug
            have w1 := wt_set j.length o at_.toNat ps
            have := so3 o ho
            refine ⟨_, hy, _, at_.toNat, hm6, by rw [lps]; exact ixN_nat b0 (by omega), ?_⟩
            refine ⟨ps.set at_.toNat o, _, rfl, ?_, by omega, keep _ _ (kp.trans kp6), (dk6.putne up.symm ug.symm).grow (by omega)⟩
            rw [mput_same]
            unfold strsD
            rw [List.map_set, List.map_set]
    · rintro ρ M6 ⟨ps', c, rfl, hm6, hw6, kp6, dk6⟩
      refine ⟨⟨_, rfl⟩, ps', .inl (DL.of hm6), by show wt j.length _ ≤ _; omega, ?_⟩
      exact k _ M6 (by have := join_le j ps'; omega) kp6 dk6
end
end K41
set_option Elab.async false
set_option linter.all false
set_option maxRecDepth 100000
set_option maxHeartbeats 1000000
set_option pp.maxSteps 1200
namespace K41
open PySem PySem.Spec PyProof.Rows L2 Lv
section
variable {P : Program} {w : World} {K : PySem.W.Frag} {mg : Str → Option Value} {base : Heap} {ca : Nat → Addr}
abbrev s__law_spoilt : Stmt := top 38
theorem sc__law_spoilt : FnScope ["tray", "text", "some", "lot"] ["tray", "text", "some"] (defScope s__law_spoilt) := ⟨rfl, rfl, rfl, by decide +kernel, rfl, by decide +kernel, by decide +kernel⟩
inductive sp__law_spoilt (ss : List S) (M : Mem) (P : K2) (Z : X2) : Prop
  | mk (p g : Addr) (t : Str) (sm : List Str) (n : Nat) (h0 : ss = [.a p, .s t, .d (.list (strsD sm))]) (h1 : t.length ≤ 200000) (h2 : 1 ≤ sm.length) (h3 : sm.length ≤ 100) (h4 : (∀ x, x ∈ sm → x.length ≤ 61)) (h5 : Ty M p g n) (h6 : n < 997000) (h7 : ∀ (x : Str) (M' : Mem), x.length ≤ 2 * t.length + 100 → Kp p g M M' → Ty M' p g (n + 6) → P (.s x) M') : sp__law_spoilt  ss M P Z
theorem ok__law_spoilt {f : Addr} {fd : FuncData} (F : Fun K "_law_spoilt" "_law_spoilt" s__law_spoilt f fd) (Z : Tx mg ca) (C__law_draw : Cal P w K mg base 1 "_law_draw" ["tray", "many"] sp__law_draw) (C__law_sign_spoilt : Cal P w K mg base 3 "_law_sign_spoilt" ["tray", "text"] sp__law_sign_spoilt)
    (C__law_words_spoilt : Cal P w K mg base 2 "_law_words_spoilt" ["tray", "text", "some"] sp__law_words_spoilt) (C__law_joint_spoilt : Cal P w K mg base 2 "_law_joint_spoilt" ["tray", "text"] sp__law_joint_spoilt) : FnOk2 P w K mg base 4 f fd ["tray", "text", "some"] sp__law_spoilt := by
  refine fn2 F sc__law_spoilt (fun ss M P Z h => ?_) (fun cdv A outer s H E cx => ?_)
  · obtain ⟨p, g, t, sm, n, rfl, _⟩ := h; rfl
  · refine ⟨_, (qs_cons (qs_set 3 cx.nd (qe_call cx C__law_draw (by omega) rfl (qa_cons (qv 0) (qa_cons qe_int qa_nil))))
    (qs_cons (qs_if (qt_eq cx (qv 3) qe_int) (qs_one (qs_ret (qe_call cx C__law_sign_spoilt (by omega) rfl (qa_cons (qv 0) (qa_cons (qv 1) qa_nil))))) qs_nil)
    (qs_cons (qs_if (qt_eq cx (qv 3) qe_int) (qs_one (qs_ret (qe_call cx C__law_words_spoilt (by omega) rfl (qa_cons (qv 0) (qa_cons (qv 1) (qa_cons (qv 2) qa_nil)))))) qs_nil)
    (qs_one (qs_ret (qe_call cx C__law_joint_spoilt (by omega) rfl (qa_cons (qv 0) (qa_cons (qv 1) qa_nil)))))))), ?_⟩
    rintro ss M Pq Z ⟨p, g, t, sm, n, rfl, ht, so1, so2, so3, dk, hn, k⟩
    refine ⟨p, g, 3, n, rfl, by omega, by omega, dk, by omega, fun lot M1 a0 a1 kp1 dk1 => ?_⟩
    refine byB (fun h => ?_) (fun h => ?_)
    · exact ⟨p, g, t, _, rfl, ht, dk1, by omega, fun x M2 hx kp2 dk2 => k x M2 (by omega) (kp1.trans kp2) (dk2.grow (by omega))⟩
    · refine byB (fun h => ?_) (fun h => ?_)
      · exact ⟨p, g, t, sm, _, rfl, ht, so1, so2, so3, dk1, by omega, fun x M2 hx kp2 dk2 => k x M2 (by omega) (kp1.trans kp2) (dk2.grow (by omega))⟩
      · exact ⟨p, g, t, _, rfl, ht, dk1, by omega, fun x M2 hx kp2 dk2 => k x M2 (by omega) (kp1.trans kp2) (dk2.grow (by omega))⟩
end
end K41
set_option Elab.async false
set_option linter.all false
set_option maxRecDepth 100000
set_option maxHeartbeats 1000000
set_option pp.maxSteps 1200
namespace K41
open PySem PySem.Spec PyProof.Rows L2 Lv
section
variable {P : Program} {w : World} {K : PySem.W.Frag} {mg : Str → Option Value} {base : Heap} {ca : Nat → Addr}
theorem strIn_one (c : Nat) (x : Str) : strIn ⟨#[c]⟩ x = decide (c ∈ x.cps.toList) := PySem.StrLaws.found_one x c
theorem letters_cps : ("abcdefghijklmnopqrstuvwxyz" : Str).cps.toList = cs26 := by decide +kernel
theorem nm_low {x : Str} (h : nmB x = true) : lowN x := by
  unfold nmB at h
  simp only [Bool.and_eq_true, decide_eq_true_eq, List.all_eq_true] at h
  refine ⟨h.1.2, h.1.1, fun c hc => ?_⟩
  have := h.2 c hc
  rw [strIn_one, decide_eq_true_eq, letters_cps] at this
  exact this
theorem ways4_5 : ∀ w, w ∈ ways4 → w ∈ ways5 := by decide +kernel
theorem unlike_nd {l : List Str} {most : Int} (h : unlikeB l most = true) : NmsOk l ∧ (l.length : Int) ≤ most := by
  unfold unlikeB at h
  simp only [Bool.and_eq_true, decide_eq_true_eq, List.all_eq_true, List.mem_map] at h
  exact ⟨⟨(met_iff l).mp h.2.2, fun x hx => h.2.1 _ ⟨x, hx, rfl⟩⟩, h.1⟩
theorem fault_good {ps : List Part} {ms : List Str} (h : planFault ps ms = none) (hw : ∀ q, q ∈ ps → ∀ a, a ∈ q.2 → a.2 ∈ ways5) : PlanL ps ms := by
  unfold planFault at h
  split at h
  · cases h
  · rename_i h1
    split at h
    · cases h
    · rename_i h2
      split at h
      · cases h
      · rename_i h3
        rw [Bool.or_eq_true, not_or, Bool.not_eq_true', Bool.not_eq_false] at h1
        obtain ⟨u1, l1⟩ := unlike_nd h1.2
        rw [Bool.not_eq_false] at h2 h3
        obtain ⟨u3, l3⟩ := unlike_nd h3
        have h2 := List.all_eq_true.mp h2
        rw [List.length_map] at l1
        have hp : ∀ q, q ∈ ps → PartGood q := fun q hq => by
          obtain ⟨u2, l2⟩ := unlike_nd (h2 q hq)
          rw [List.length_map] at l2
          exact ⟨u2, by omega, hw q hq⟩
        have n1 : 1 ≤ ps.length := by
          cases ps with
          | nil => exact absurd rfl h1.1
          | cons _ _ => simp
        exact ⟨⟨u1, n1, by omega, hp, u3, by omega⟩, ⟨u1.nd, fun x hx => nm_low (u1.nm x hx)⟩, fun q hq => ⟨(hp q hq).ok.nd, fun x hx => nm_low ((hp q hq).ok.nm x hx)⟩, ⟨u3.nd, fun x hx => nm_low (u3.nm x hx)⟩⟩
def pairOk (ps : List Str) : Bool := decide (ps.length = 2) && decide (ps.getD 1 Str.empty ∈ ways4)
def dimLaw : List Str → Option Part
  | w :: n :: r => if (decide (w = "dim") && (r.map fun w => Txt.split w ":").all pairOk) = true then some (n, r.map fun w => toA (Txt.split w ":")) else none
  | _ => none
def lawPre (L : List (List Str)) : Option (List (List Str) × List Str) := match L.getLast? with
  | some (w :: ms) => if 1 < L.length ∧ w = "sum" then (if ms = [] then none else some (L.dropLast, ms)) else some (L, [])
  | _ => some (L, [])
def lawPlan (t : Str) : Option (List Part × List Str) := match lawPre (readParts t) with
  | none => none
  | some (pp, ms) => match allSome (pp.map dimLaw) with
    | none => none
    | some ps => some (ps, ms)
def lawDue (t : Str) : Option (List Part × List Str) := match lawPlan t with
  | none => none
  | some (ps, ms) => if planFault ps ms = none then some (ps, ms) else none
theorem allSome_none {α : Type} {l : List (Option α)} : allSome l = none ↔ none ∈ l := by
  induction l with
  | nil => exact ⟨(fun h => by cases h), (fun h => by cases h)⟩
  | cons o r ih =>
    cases o with
    | none => exact ⟨fun _ => List.mem_cons_self .., fun _ => rfl⟩
    | some x =>
      have e : allSome (some x :: r) = (allSome r).map (x :: ·) := rfl
      rw [e, Option.map_eq_none_iff, ih, List.mem_cons]
      exact ⟨.inr, fun h => h.resolve_left (by simp)⟩
theorem dim_names {ws : List Str} : dimOf ws = match dimLaw ws with
    | none => none
    | some q => if (nmB q.1 && q.2.all fun a => nmB a.1) = true then some q else none := by
  match ws with
  | [] => rfl
  | [w] =>
    show (if w = "dim" then dimIn [] else none) = none
    split <;> rfl
  | w :: n :: r =>
    show (if w = "dim" then (if (nmB n && (r.map fun w => Txt.split w ":").all attrOk) = true then some (n, r.map fun w => toA (Txt.split w ":")) else none) else none) = match (if (decide (w = "dim") && (r.map fun w => Txt.split w ":").all pairOk) = true then some (n, r.map fun w => toA (Txt.split w ":")) else none) with
      | none => none
      | some q => if (nmB q.1 && q.2.all fun a => nmB a.1) = true then some q else none
    by_cases hw : w = "dim"
    · rw [if_pos hw, decide_eq_true hw, Bool.true_and]
      have e : (r.map fun w => Txt.split w ":").all attrOk = ((r.map fun w => Txt.split w ":").all pairOk && (r.map fun w => toA (Txt.split w ":")).all fun a => nmB a.1) := by
        clear hw
        induction r with
        | nil => rfl
        | cons a l ih =>
          rw [List.map_cons, List.map_cons, List.all_cons, List.all_cons, List.all_cons, ih]
          have : attrOk (Txt.split a ":") = (pairOk (Txt.split a ":") && nmB (toA (Txt.split a ":")).1) := by
            unfold attrOk pairOk toA
            cases decide ((Txt.split a ":").length = 2) <;> cases nmB ((Txt.split a ":").getD 0 Str.empty) <;> cases decide ((Txt.split a ":").getD 1 Str.empty ∈ ways4) <;> rfl
          rw [this]
          cases pairOk (Txt.split a ":") <;> cases nmB (toA (Txt.split a ":")).1 <;> cases (l.map fun w => Txt.split w ":").all pairOk <;> cases ((l.map fun w => toA (Txt.split w ":")).all fun a => nmB a.1) <;> rfl
      rw [e]
      cases (r.map fun w => Txt.split w ":").all pairOk
      · rw [Bool.false_and, Bool.and_false]
        rfl
      · rw [Bool.true_and]
        rfl
    · rw [if_neg hw, decide_eq_false hw, Bool.false_and]
      rfl
theorem law_ways {ws : List Str} {q : Part} (h : dimLaw ws = some q) : ∀ a, a ∈ q.2 → a.2 ∈ ways5 := by
  match ws with
  | [] => cases h
  | [w] => cases h
  | w :: n :: r =>
    have h : (if (decide (w = "dim") && (r.map fun w => Txt.split w ":").all pairOk) = true then some (n, r.map fun w => toA (Txt.split w ":")) else none) = some q := h
    split at h
    · rename_i hb
      injection h with h
      subst h
      rw [Bool.and_eq_true, List.all_eq_true] at hb
      intro a ha
      obtain ⟨w, hw, rfl⟩ := List.mem_map.mp ha
      have := hb.2 _ (List.mem_map_of_mem hw)
      have this : (decide ((Txt.split w ":").length = 2) && decide ((Txt.split w ":").getD 1 Str.empty ∈ ways4)) = true := this
      rw [Bool.and_eq_true, decide_eq_true_eq, decide_eq_true_eq] at this
      exact ways4_5 _ this.2
    · cases h
def finP (ms : List Str) (o : Option (List Part)) : Option (List Part × List Str) := match o with
  | none => none
  | some ps => if planFault ps ms = none then some (ps, ms) else none
theorem dims_due (pp : List (List Str)) (ms : List Str) : finP ms (allSome (pp.map dimLaw)) = finP ms (allSome (pp.map dimOf)) := by
  have none_of : ∀ ws, dimLaw ws = none → dimOf ws = none := fun ws h => by rw [dim_names, h]
  cases e : allSome (pp.map dimLaw) with
  | none =>
    obtain ⟨ws, hws, h⟩ := List.mem_map.mp (allSome_none.mp e)
    have : allSome (pp.map dimOf) = none := allSome_none.mpr (List.mem_map.mpr ⟨ws, hws, none_of ws h⟩)
    rw [this]
  | some ps =>
    have hm := allSome_map e
    by_cases hf : planFault ps ms = none
    · have good := fault_good hf fun q hq => by
        have : some q ∈ pp.map dimLaw := by rw [hm]; exact List.mem_map_of_mem hq
        obtain ⟨ws, _, h⟩ := List.mem_map.mp this
        exact law_ways h
      have : pp.map dimOf = ps.map some := by
        rw [← hm]
        refine List.map_congr_left fun ws hws => ?_
        rw [dim_names]
        have hq : dimLaw ws ∈ ps.map some := by rw [← hm]; exact List.mem_map_of_mem hws
        obtain ⟨q, hq, e⟩ := List.mem_map.mp hq
        rw [← e]
        show (if (nmB q.1 && q.2.all fun a => nmB a.1) = true then some q else none) = some q
        rw [if_pos]
        rw [good.good.ok.nm q.1 (List.mem_map_of_mem hq), Bool.true_and, List.all_eq_true]
        exact fun a ha => (good.good.parts q hq).ok.nm a.1 (List.mem_map_of_mem ha)
      rw [this, allSome_of]
    · have l : finP ms (some ps) = none := if_neg hf
      rw [l]
      cases e2 : allSome (pp.map dimOf) with
      | none => rfl
      | some ps' =>
        have hm2 := allSome_map e2
        have : ps' = ps := by
          clear e e2 hf l none_of
          induction pp generalizing ps ps' with
          | nil =>
            cases ps with
            | nil =>
              cases ps' with
              | nil => rfl
              | cons _ _ => cases hm2
            | cons _ _ => cases hm
          | cons ws r ih =>
            cases ps with
            | nil => cases hm
            | cons q l =>
              cases ps' with
              | nil => cases hm2
              | cons q' l' =>
                rw [List.map_cons, List.map_cons] at hm hm2
                injection hm with h1 h2
                injection hm2 with h3 h4
                rw [ih _ h2 _ h4]
                rw [dim_names, h1] at h3
                have h3 : (if (nmB q.1 && q.2.all fun a => nmB a.1) = true then some q else none) = some q' := h3
                split at h3
                · injection h3 with h3
                  rw [h3]
                · cases h3
        rw [this]
        exact l.symm
theorem due_is (t : Str) : lawDue t = readPlan t := by
  have hL : readParts t ≠ [] := fun z => by
    unfold readParts at z
    exact split_nilP _ _ (List.map_eq_nil_iff.mp z)
  have hne : ∀ p, p ∈ readParts t → p ≠ [] := fun p hp z => by
    unfold readParts at hp
    obtain ⟨q, _, rfl⟩ := List.mem_map.mp hp
    exact split_nilP _ _ z
  have h1 : lawDue t = match lawPre (readParts t) with | none => none | some (pp, ms) => finP ms (allSome (pp.map dimLaw)) := by
    unfold lawDue lawPlan
    cases lawPre (readParts t) with
    | none => rfl
    | some x =>
      obtain ⟨pp, ms⟩ := x
      show (match (match allSome (pp.map dimLaw) with | none => none | some ps => some (ps, ms)) with | none => none | some (ps, ms) => if planFault ps ms = none then some (ps, ms) else none) = finP ms (allSome (pp.map dimLaw))
      cases allSome (pp.map dimLaw) <;> rfl
  have h2 : readPlan t = match readPre (readParts t) with | none => none | some (pp, ms) => finP ms (allSome (pp.map dimOf)) := by
    unfold readPlan
    cases readPre (readParts t) with
    | none => rfl
    | some x =>
      obtain ⟨pp, ms⟩ := x
      show (match allSome (pp.map dimOf) with | none => none | some ps => if planFault ps ms = none then some (ps, ms) else none) = finP ms (allSome (pp.map dimOf))
      cases allSome (pp.map dimOf) <;> rfl
  rw [h1, h2]
  clear h1 h2
  obtain ⟨L, hLe⟩ : ∃ L, L = readParts t := ⟨_, rfl⟩
  rw [← hLe] at hL hne ⊢
  clear hLe
  obtain ⟨i, last, h⟩ : ∃ i last, L = i ++ [last] := by
    rcases List.eq_nil_or_concat L with h | ⟨i, last, h⟩
    · exact absurd h hL
    · exact ⟨i, last, by rw [h, List.concat_eq_append]⟩
  subst h
  have hlast := hne last (by simp)
  cases last with
  | nil => exact absurd rfl hlast
  | cons wd r =>
    have e1 : readPre (i ++ [wd :: r]) = if wd = "sum" then (if r = [] then none else some (i, r)) else some (i ++ [wd :: r], []) := by
      unfold readPre
      rw [List.getLast?_concat]
      show (if wd = "sum" then (if r = [] then none else some ((i ++ [wd :: r]).dropLast, r)) else some (i ++ [wd :: r], [])) = _
      rw [List.dropLast_concat]
    have e2 : lawPre (i ++ [wd :: r]) = if 1 < (i ++ [wd :: r]).length ∧ wd = "sum" then (if r = [] then none else some (i, r)) else some (i ++ [wd :: r], []) := by
      unfold lawPre
      rw [List.getLast?_concat]
      show (if 1 < (i ++ [wd :: r]).length ∧ wd = "sum" then (if r = [] then none else some ((i ++ [wd :: r]).dropLast, r)) else some (i ++ [wd :: r], [])) = _
      rw [List.dropLast_concat]
    rw [e1, e2]
    by_cases hw : wd = "sum"
    · cases i with
      | nil =>
        rw [if_neg (by simp), if_pos hw]
        have hd : dimLaw (wd :: r) = none := by
          subst hw
          cases r with
          | nil => rfl
          | cons n r =>
            show (if (decide (("sum" : Str) = "dim") && (r.map fun w => Txt.split w ":").all pairOk) = true then some (n, r.map fun w => toA (Txt.split w ":")) else none) = none
            rw [decide_eq_false (by decide +kernel), Bool.false_and]
            rfl
        have hl : allSome ([wd :: r].map dimLaw) = none := by
          rw [List.map_cons, hd]; rfl
        show finP [] (allSome (([] ++ [wd :: r]).map dimLaw)) = _
        rw [List.nil_append, hl]
        by_cases hr : r = []
        · rw [if_pos hr]; rfl
        · rw [if_neg hr]; rfl
      | cons a j =>
        rw [if_pos ⟨by simp, hw⟩, if_pos hw]
        by_cases hr : r = []
        · rw [if_pos hr]
        · rw [if_neg hr]
          exact dims_due _ _
    · rw [if_neg (fun h => hw h.2), if_neg hw]
      exact dims_due _ _
end
end K41
set_option Elab.async false
set_option linter.all false
set_option maxRecDepth 100000
set_option maxHeartbeats 1000000
set_option pp.maxSteps 1200
namespace K41
open PySem PySem.Spec PyProof.Rows L2 Lv
section
variable {P : Program} {w : World} {K : PySem.W.Frag} {mg : Str → Option Value} {base : Heap} {ca : Nat → Addr}
abbrev s__law_plan_of : Stmt := top 41
theorem sc__law_plan_of : FnScope ["text", "parts", "sums", "found", "words", "pairs", "ways", "part", "word", "one", "way", "pair"] ["text"] (defScope s__law_plan_of) := ⟨rfl, rfl, rfl, by decide +kernel, rfl, by decide +kernel, by decide +kernel⟩
def plOpt : Option (List Part × List Str) → PyData
  | none => .none
  | some z => .list [.list (partsD z.1), .list (strsD z.2)]
inductive sp__law_plan_of (ss : List S) (M : Mem) (P : K2) (Z : X2) : Prop
  | mk (t : Str) (h0 : ss = [.s t]) (h1 : SmT t) (h2 : ∀ M', Gw M M' → P (.d (plOpt (lawPlan t))) M') : sp__law_plan_of  ss M P Z
theorem cut_from2 (ws : List Str) : cutD (strsD ws) (some 2) none = strsD (ws.drop 2) := by
  have e : HT.sIx (strsD ws).length 0 (some ((2 : Nat) : Int)) = min 2 (strsD ws).length := HT.sIx_nat _ _ _
  have e0 : HT.sIx (strsD ws).length (strsD ws).length none = (strsD ws).length := rfl
  unfold Lv.cutD
  rw [show (some (2 : Int)) = some ((2 : Nat) : Int) from rfl, e, e0]
  have hl : (strsD ws).length = ws.length := List.length_map _
  unfold strsD at hl ⊢
  rw [hl]
  match ws with
  | [] => rfl
  | [a] => rfl
  | a :: b :: r =>
    rw [List.length_cons, List.length_cons, Nat.min_eq_left (by omega)]
    show List.take _ (r.map PyData.str) = r.map PyData.str
    exact List.take_of_length_le (by rw [List.length_map]; omega)
theorem two_of {l : List Str} (h : l.length = 2) : ∃ a b, l = [a, b] := by
  match l, h with
  | [a, b], _ => exact ⟨a, b, rfl⟩
theorem filter_empty {α : Type} (p : α → Bool) (l : List α) : (l.filter fun x => !p x).isEmpty = l.all p := by
  induction l with
  | nil => rfl
  | cons a r ih =>
    rw [List.filter_cons, List.all_cons]
    cases h : p a
    · rfl
    · rw [Bool.true_and, ← ih]; rfl
theorem ok__law_plan_of {f : Addr} {fd : FuncData} (F : Fun K "_law_plan_of" "_law_plan_of" s__law_plan_of f fd) (Z : Tx mg ca) : FnOk2 P w K mg base 1 f fd ["text"] sp__law_plan_of := by
  refine fn2 F sc__law_plan_of (fun ss M P Z h => ?_) (fun cdv A outer s H E cx => ?_)
  · obtain ⟨t, rfl, _⟩ := h; rfl
  · refine ⟨_, (qs_cons (qs_setLc (i := 1) enM_ok cx (qi_seq (qe_split (qv 0) qe_str)) (blkOk_by (own := [("part", 7)]) rfl) (fun _ _ _ _ _ => (qgn 7 cx.blk.nd)) (fun _ _ _ _ _ => qts_nil) (fun _ _ _ _ _ cx => (qe_split (qv 7) qe_str)))
    (qs_cons (qs_set 2 cx.nd (qe_lst qa_nil))
    (qs_consC (qs_if (qt_w (qw_and (qt_gt (qe_len rfl Z.z_len (qa_cons (qv 1) qa_nil)) qe_int) (qw_and1 (qt_eq cx (qe_ix (qe_ix (qv 1) (qe_neg qe_int)) qe_int) qe_str)))) (qs_cons (qs_set 2 cx.nd (qe_sl (qe_pop (qv 1)) (qo_some qe_int) qo_none))
    (qs_one (qs_if (qt_eq cx (qv 2) (qe_lst qa_nil)) (qs_one (qs_ret qe_non)) qs_nil))) qs_nil)
    (qs_cons (qs_set 3 cx.nd (qe_lstM qa_nil))
    (qs_cons (qs_for cx (qi_seq (qv 1)) (qgn 4 cx.nd)
    (qs_cons (qs_setLc (i := 5) enD_ok cx (qi_seq (qe_sl (qv 4) (qo_some qe_int) qo_none)) (blkOk_by (own := [("word", 8)]) rfl) (fun _ _ _ _ _ => (qgn 8 cx.blk.nd)) (fun _ _ _ _ _ => qts_nil) (fun _ _ _ _ _ cx => (qe_tuple rfl Z.z_tuple (qa_cons (qe_split (qv 8) qe_str) qa_nil))))
    (qs_cons (qs_set 6 cx.nd (qe_lst (qa_cons qe_str (qa_cons qe_str (qa_cons qe_str (qa_cons qe_str qa_nil))))))
    (qs_cons (qs_if (qt_w (qw_or (qt_ne cx (qe_ix (qv 4) qe_int) qe_str) (qw_or (qt_lt (qe_len rfl Z.z_len (qa_cons (qv 4) qa_nil)) qe_int) (qw_or1 (qt_ne cx (qe_lcE enD_ok cx (qi_seq (qv 5)) (blkOk_by (own := [("pair", 11)]) rfl) (fun _ _ _ _ _ => (qgn 11 cx.blk.nd)) (fun _ _ _ _ _ => (qts_one (qt_ne cx.blk (qe_len rfl Z.z_len (qa_cons (qv 11) qa_nil)) qe_int))) (fun _ _ _ _ _ cx => (qv 11))) (qe_lst qa_nil)))))) (qs_one (qs_ret qe_non)) qs_nil)
    (qs_cons (qs_if (qt_ne cx (qe_lcE enD_ok cx (qi_seq (qv 5)) (blkOk_by (own := [("one", 9), ("way", 10)]) rfl) (fun _ _ _ _ _ => (qg_tuple rfl (qgs_cons (qgn 9 cx.blk.nd) (qgs_cons (qgn 10 cx.blk.nd) qgs_nil)) (gl_cons gv_name (gl_cons gv_name gl_nil)))) (fun _ _ _ _ _ => (qts_one (qt_notin cx.blk (qv 10) (qv 6)))) (fun _ _ _ _ _ cx => (qv 10))) (qe_lst qa_nil)) (qs_one (qs_ret qe_non)) qs_nil)
    (qs_one (qs_expr (qe_append (qv 3) (qa_cons (qe_tup (qa_cons (qe_ix (qv 4) qe_int) (qa_cons (qe_tuple rfl Z.z_tuple (qa_cons (qv 5) qa_nil)) qa_nil))) qa_nil)))))))))
    (qs_one (qs_ret (qe_lst (qa_cons (qe_frz (qv 3)) (qa_cons (qv 2) qa_nil)))))))))), ?_⟩
    rintro ss M Pq Z ⟨t, rfl, sm, k⟩
    have hlen := sm.len
    have hpl := sm.parts
    have hwd := sm.words
    have el : (readParts t).length = (Txt.split t "; ").length := List.length_map _
    have hsub := sub_len "; " t
    refine ⟨⟨_, rfl⟩, by decide +kernel, size15 (by omega), _, rfl, lc_mapM (Txt.split t "; ") (fun p => .s p) (fun p => .d (.list (strsD (Txt.split p " ")))) (by unfold strsD; rw [List.map_map]; rfl) (Nat.lt_of_le_of_lt hpl (by decide)) rfl (fun p hp Q k2 => ?_) ?_⟩
    · exact ⟨⟨_, rfl⟩, by decide +kernel, size15 (by have := hsub p hp; omega), k2⟩
    intro u hu
    have eparts : ((Txt.split t "; ").map fun p => S.d (.list (strsD (Txt.split p " ")))) = (readParts t).map fun ws => S.d (.list (strsD ws)) := by
      unfold readParts
      rw [List.map_map]
      rfl
    rw [eparts]
    have hne : ∀ p, p ∈ readParts t → p ≠ [] := fun p hp z => by
      unfold readParts at hp
      obtain ⟨q, _, rfl⟩ := List.mem_map.mp hp
      exact split_nilP _ _ z
    have hL : readParts t ≠ [] := fun z => by
      unfold readParts at z
      exact split_nilP _ _ (List.map_eq_nil_iff.mp z)
    unfold lawPlan at k
    rw [← el] at hpl
    obtain ⟨L, hLe⟩ : ∃ L, L = readParts t := ⟨_, rfl⟩
    rw [← hLe] at hwd hpl hne hL k ⊢
    clear hLe
    have hmu : mput M u (.lst (L.map fun ws => S.d (.list (strsD ws)))) u = some (.lst (L.map fun ws => S.d (.list (strsD ws)))) := mput_same
    have gu : Gw M (mput M u (.lst (L.map fun ws => S.d (.list (strsD ws))))) := Gw.refl.put hu
    revert hmu gu
    generalize mput M u (.lst (L.map fun ws => S.d (.list (strsD ws)))) = M1
    intro hmu gu
    obtain ⟨i, last, h⟩ : ∃ i last, L = i ++ [last] := by
      rcases List.eq_nil_or_concat L with h | ⟨i, last, h⟩
      · exact absurd h hL
      · exact ⟨i, last, by rw [h, List.concat_eq_append]⟩
    subst h
    have hlast := hne last (by simp)
    cases last with
    | nil => exact absurd rfl hlast
    | cons wd r =>
      have epre : lawPre (i ++ [wd :: r]) = if 1 < (i ++ [wd :: r]).length ∧ wd = "sum" then (if r = [] then none else some (i, r)) else some (i ++ [wd :: r], []) := by
        unfold lawPre
        rw [List.getLast?_concat]
        show (if 1 < (i ++ [wd :: r]).length ∧ wd = "sum" then (if r = [] then none else some ((i ++ [wd :: r]).dropLast, r)) else some (i ++ [wd :: r], [])) = _
        rw [List.dropLast_concat]
      rw [epre] at k
      clear epre
      have hll : (List.map (fun ws => S.d (.list (strsD ws))) (i ++ [wd :: r])).length = (i ++ [wd :: r]).length := List.length_map _
      refine ⟨fun ρ M' => Gw M M' ∧ ∃ (pp : List (List Str)) (ms : List Str), (∀ ws, ws ∈ pp → ws ∈ i ++ [wd :: r]) ∧ pp.length ≤ 10000 ∧ M' u = some (.lst (pp.map fun ws => S.d (.list (strsD ws)))) ∧
        (∀ M', Gw M M' → Pq (.d (plOpt (match allSome (pp.map dimLaw) with | none => none | some ps => some (ps, ms)))) M') ∧
        ρ = [some (.s t), some (.a u), some (.d (.list (strsD ms))), none, none, none, none, none, none, none, none, none], ?_, ?_⟩
      · have same : (¬ (1 < (i ++ [wd :: r]).length ∧ wd = "sum")) → Gw M M1 ∧ ∃ (pp : List (List Str)) (ms : List Str), (∀ ws, ws ∈ pp → ws ∈ i ++ [wd :: r]) ∧ pp.length ≤ 10000 ∧ M1 u = some (.lst (pp.map fun ws => S.d (.list (strsD ws)))) ∧
            (∀ M', Gw M M' → Pq (.d (plOpt (match allSome (pp.map dimLaw) with | none => none | some ps => some (ps, ms)))) M') ∧
            [some (S.s t), some (.a u), some (.d (.list [])), none, none, none, none, none, none, none, none, none] = [some (.s t), some (.a u), some (.d (.list (strsD ms))), none, none, none, none, none, none, none, none, none] := fun h => by
          rw [if_neg h] at k
          exact ⟨gu, _, [], fun ws hw => hw, hpl, hmu, k, rfl⟩
        refine ⟨_, lenOf_of hmu, ?_⟩
        rw [hll]
        refine byB (fun h => ?_) (fun h => ?_)
        · have h1 : 1 < (i ++ [wd :: r]).length := by have := of_decide_eq_true h; omega
          have hlast2 : atI (List.map (fun ws => S.d (.list (strsD ws))) (i ++ [wd :: r])) (-1) = some (.d (.list (strsD (wd :: r)))) := by
            rw [List.map_append]
            exact atI_lastS _ _
          refine ⟨_, _, hmu, hlast2, ?_⟩
          refine ⟨_, atI_zero _ _, ?_⟩
          refine byB (fun h2 => ?_) (fun h2 => ?_) <;> rw [eqv_str] at h2
          · have h2 := of_decide_eq_true h2
            rw [if_pos ⟨h1, h2⟩] at k
            have hi : i ≠ [] := fun z => by subst z; simp at h1
            have hrl := hwd (wd :: r) (by simp)
            rw [List.length_cons] at hrl
            refine ⟨isL_of hmu, _, _, hmu, (by rw [hll, List.length_append, List.length_singleton, Nat.add_sub_cancel, List.map_append, List.getElem?_append_right (by rw [List.length_map]; exact Nat.le_refl _), List.length_map, Nat.sub_self]; rfl : _ = some (S.d (.list (strsD (wd :: r))))), ?_⟩
            have hd : List.map (fun ws => S.d (.list (strsD ws))) i = (List.map (fun ws => S.d (.list (strsD ws))) (i ++ [wd :: r])).dropLast := by
              rw [List.map_append]
              exact List.dropLast_concat.symm
            rw [← hd]
            have gd : Gw M (mput M1 u (.lst (List.map (fun ws => S.d (.list (strsD ws))) i))) := gw_putD gu hmu hu
            have hmd : mput M1 u (.lst (List.map (fun ws => S.d (.list (strsD ws))) i)) u = some (.lst (List.map (fun ws => S.d (.list (strsD ws))) i)) := mput_same
            revert gd hmd
            generalize mput M1 u (.lst (List.map (fun ws => S.d (.list (strsD ws))) i)) = M2
            intro gd hmd
            refine ⟨_, .inl rfl, ?_⟩
            rw [show strsD (wd :: r) = .str wd :: strsD r from rfl, cut_tailS]
            refine ⟨_, _, .inl rfl, .inl rfl, depth_nil _, ?_⟩
            refine byB (fun h3 => ?_) (fun h3 => ?_) <;> rw [eqv_nil] at h3
            · have hr0 : r = [] := by
                cases r with
                | nil => rfl
                | cons _ _ => cases h3
              rw [if_pos hr0] at k
              exact k M2 gd
            · have hr0 : r ≠ [] := fun z => by subst z; cases h3
              rw [if_neg hr0] at k
              exact ⟨gd, i, r, fun ws hw => List.mem_append_left _ hw, by rw [List.length_append] at hpl; simp at hpl; omega, hmd, k, rfl⟩
          · exact same fun z => of_decide_eq_false h2 z.2
        · exact same fun z => of_decide_eq_false h (by have := z.1; omega)
      · rintro ρ M2 ⟨gw2, pp, ms, hppw, hppl, hmu2, k, rfl⟩
        intro fo hfo
        have huf : u ≠ fo := fun z => by subst z; rw [hmu2] at hfo; cases hfo
        have gf : Gw M2 (mput M2 fo (.lst [])) := Gw.refl.put hfo
        have hmf : mput M2 fo (.lst []) fo = some (.lst []) := mput_same
        have hmu3 : mput M2 fo (.lst []) u = some (.lst (pp.map fun ws => S.d (.list (strsD ws)))) := by rw [mput_ne huf]; exact hmu2
        have nfo : M fo = none := gw2.none hfo
        have gw3 := gw2.trans gf
        revert hmf hmu3 gw3
        generalize mput M2 fo (.lst []) = M3
        intro hmf hmu3 gw3
        refine ⟨_, itemsS_of hmu3, forL pp (fun ws => S.d (.list (strsD ws))) (fun dn ρ M' => Gw M M' ∧ M' u = some (.lst (pp.map fun ws => S.d (.list (strsD ws)))) ∧ ∃ qs : List Part, dn.map dimLaw = qs.map some ∧ M' fo = some (.lst ((partsD qs).map S.d)) ∧
          ∃ a4 a5 a6 a7 a8 a9 a10 a11, ρ = [some (.s t), some (.a u), some (.d (.list (strsD ms))), some (.a fo), a4, a5, a6, a7, a8, a9, a10, a11])
          rfl ⟨gw3, hmu3, [], rfl, hmf, _, _, _, _, _, _, _, _, rfl⟩ (fun _ _ M' h => itemsS_of h.2.1) ?_ ?_⟩
        · rintro dn ws rest ρ M4 e ⟨gw4, hmu4, qs, hq, hmf4, a4, a5, a6, a7, a8, a9, a10, a11, rfl⟩
          have hws : ws ∈ pp := by rw [e]; simp
          obtain ⟨hw1, hw2⟩ := hwd ws (hppw ws hws)
          have bad : dimLaw ws = none → ∀ M', Gw M M' → Pq .n M' := fun hb M' g => by
            have : allSome (pp.map dimLaw) = none := allSome_none.mpr (List.mem_map.mpr ⟨ws, hws, hb⟩)
            rw [this] at k
            exact k M' g
          have hdl : (ws.drop 2).length ≤ 10000 := by rw [List.length_drop]; omega
          refine ⟨_, .inl rfl, ?_⟩
          rw [cut_from2]
          refine ⟨_, rfl, lc_mapL (ws.drop 2) (fun w => .s w) (fun w => .tuple (strsD (Txt.split w ":"))) (by rw [strsD, List.map_map]; rfl) (Nat.lt_of_le_of_lt hdl (by decide)) rfl (fun w hw Q k2 => ?_) ?_⟩
          · have := hw2 w (List.mem_of_mem_drop hw)
            exact ⟨⟨_, rfl⟩, by decide +kernel, size15 (by omega), _, .inl rfl, k2⟩
          cases ws with
          | nil => exact absurd rfl (hne [] (hppw [] hws))
          | cons w0 r0 =>
            refine ⟨_, atI_zero _ _, ?_⟩
            refine byB (fun h => ?_) (fun h => ?_) <;> rw [eqv_str] at h
            · have h : w0 ≠ "dim" := fun z => by rw [decide_eq_true z] at h; cases h
              refine bad ?_ M4 gw4
              cases r0 with
              | nil => rfl
              | cons n r =>
                show (if (decide (w0 = "dim") && (r.map fun w => Txt.split w ":").all pairOk) = true then some (n, r.map fun w => toA (Txt.split w ":")) else none) = none
                rw [decide_eq_false h, Bool.false_and]
                rfl
            · have hdim : w0 = "dim" := by
                by_cases z : w0 = "dim"
                · exact z
                · rw [decide_eq_false z] at h; cases h
              refine ⟨_, rfl, ?_⟩
              have hlen : (strsD (w0 :: r0)).length = r0.length + 1 := by unfold strsD; rw [List.length_map, List.length_cons]
              revert hlen
              generalize (strsD (w0 :: r0)).length = len
              intro hlen
              refine byB (fun h2 => ?_) (fun h2 => ?_)
              · have h2 := of_decide_eq_true h2
                have : r0 = [] := List.eq_nil_of_length_eq_zero (by omega)
                subst this
                exact bad rfl M4 gw4
              cases r0 with
              | nil =>
                have h2 := of_decide_eq_false h2
                simp at hlen
                omega
              | cons n r =>
                have hdr : (w0 :: n :: r).drop 2 = r := rfl
                rw [hdr] at hdl ⊢
                refine ⟨_, rfl, lc_keepL r (fun w => .d (.tuple (strsD (Txt.split w ":")))) (fun w => .tuple (strsD (Txt.split w ":"))) (fun w => !decide ((Txt.split w ":").length = 2)) (by rw [List.map_map]; rfl) (Nat.lt_of_le_of_lt hdl (by decide)) rfl (fun w hw Q R q1 q2 => ?_) ?_⟩
                · refine ⟨_, rfl, ?_⟩
                  have hl2 : (strsD (Txt.split w ":")).length = (Txt.split w ":").length := List.length_map _
                  have e2 : PyData.eqv (.int ((strsD (Txt.split w ":")).length : Nat)) (.int 2) = decide ((Txt.split w ":").length = 2) := by
                    rw [hl2]; exact len_eq2 _ 2
                  refine byB (fun h => q1 ?_) (fun h => q2 ?_)
                  · rw [← e2]; exact h
                  · rw [← e2]; exact h
                refine ⟨_, _, .inl rfl, .inl rfl, depth_nil _, ?_⟩
                have e3 : PyData.eqv (.list ((r.filter fun w => !decide ((Txt.split w ":").length = 2)).map fun w => PyData.tuple (strsD (Txt.split w ":")))) (.list []) = r.all fun w => decide ((Txt.split w ":").length = 2) := by
                  rw [eqv_nil, List.isEmpty_map]
                  exact filter_empty _ _
                rw [e3]
                have dl : dimLaw (w0 :: n :: r) = if (r.map fun w => Txt.split w ":").all pairOk = true then some (n, r.map fun w => toA (Txt.split w ":")) else none := by
                  show (if (decide (w0 = "dim") && (r.map fun w => Txt.split w ":").all pairOk) = true then some (n, r.map fun w => toA (Txt.split w ":")) else none) = _
                  rw [decide_eq_true hdim, Bool.true_and]
                refine byB (fun h => ?_) (fun h => ?_)
                · refine bad ?_ M4 gw4
                  rw [dl, if_neg]
                  intro z
                  have h : (r.all fun w => decide ((Txt.split w ":").length = 2)) = false := by simpa using h
                  have : (r.all fun w => decide ((Txt.split w ":").length = 2)) = true := List.all_eq_true.mpr fun w hw => by
                    have := List.all_eq_true.mp z _ (List.mem_map_of_mem hw)
                    unfold pairOk at this
                    rw [Bool.and_eq_true] at this
                    exact this.1
                  rw [this] at h
                  cases h
                · have h2all : ∀ w, w ∈ r → (Txt.split w ":").length = 2 := fun w hw => by
                    have h : (r.all fun w => decide ((Txt.split w ":").length = 2)) = true := by simpa using h
                    exact of_decide_eq_true (List.all_eq_true.mp h w hw)
                  refine ⟨_, rfl, lc_keepL r (fun w => .d (.tuple (strsD (Txt.split w ":")))) (fun w => .str ((Txt.split w ":").getD 1 Str.empty)) (fun w => !decide ((Txt.split w ":").getD 1 Str.empty ∈ ways4)) (by rw [List.map_map]; rfl) (Nat.lt_of_le_of_lt hdl (by decide)) rfl (fun w hw Q R q1 q2 => ?_) ?_⟩
                  · obtain ⟨a, b, eab⟩ := two_of (h2all w hw)
                    rw [eab] at q1 q2 ⊢
                    refine ⟨_, _, .inl rfl, .inl (.inl rfl), by simp [PyData.depth], ?_⟩
                    have e5 : ((strsD ways4).any fun y => PyData.eqv y (.str b)) = decide (b ∈ ways4) := in_ways b
                    refine byB (fun h => q1 ?_) (fun h => q2 ?_)
                    · have h : (!((strsD ways4).any fun y => PyData.eqv y (.str b))) = true := h
                      rw [e5] at h
                      exact h
                    · have h : (!((strsD ways4).any fun y => PyData.eqv y (.str b))) = false := h
                      rw [e5] at h
                      exact h
                  refine ⟨_, _, .inl rfl, .inl rfl, depth_nil _, ?_⟩
                  have e4 : PyData.eqv (.list ((r.filter fun w => !decide ((Txt.split w ":").getD 1 Str.empty ∈ ways4)).map fun w => PyData.str ((Txt.split w ":").getD 1 Str.empty))) (.list []) = r.all fun w => decide ((Txt.split w ":").getD 1 Str.empty ∈ ways4) := by
                    rw [eqv_nil, List.isEmpty_map]
                    exact filter_empty _ _
                  rw [e4]
                  refine byB (fun h => ?_) (fun h => ?_)
                  · refine bad ?_ M4 gw4
                    rw [dl, if_neg]
                    intro z
                    have h : (r.all fun w => decide ((Txt.split w ":").getD 1 Str.empty ∈ ways4)) = false := by simpa using h
                    have : (r.all fun w => decide ((Txt.split w ":").getD 1 Str.empty ∈ ways4)) = true := List.all_eq_true.mpr fun w hw => by
                      have := List.all_eq_true.mp z _ (List.mem_map_of_mem hw)
                      unfold pairOk at this
                      rw [Bool.and_eq_true] at this
                      exact this.2
                    rw [this] at h
                    cases h
                  · have h : (r.all fun w => decide ((Txt.split w ":").getD 1 Str.empty ∈ ways4)) = true := by simpa using h
                    have good : (r.map fun w => Txt.split w ":").all pairOk = true := List.all_eq_true.mpr fun x hx => by
                      obtain ⟨w, hw, rfl⟩ := List.mem_map.mp hx
                      unfold pairOk
                      rw [decide_eq_true (h2all w hw), List.all_eq_true.mp h w hw]
                      rfl
                    rw [if_pos good] at dl
                    refine ⟨isL_of hmf4, _, atI_k (i := 1) rfl rfl, _, .inl rfl, ?_⟩
                    refine ⟨_, hmf4, ?_, ?_⟩
                    · have := congrArg List.length hq
                      have := congrArg List.length e
                      rw [List.length_map, List.length_map] at *
                      rw [List.length_append, List.length_cons] at this
                      unfold partsD
                      rw [List.length_map]
                      exact Nat.lt_of_le_of_lt (show _ ≤ 10000 by omega) (by decide)
                    · have gf4 : ∀ o, Gw M (mput M4 fo o) := fun o => gw_putD gw4 hmf4 nfo
                      refine ⟨gf4 _, by rw [mput_ne huf]; exact hmu4, qs ++ [(n, r.map fun w => toA (Txt.split w ":"))], by rw [List.map_append, List.map_append, hq, List.map_cons, dl]; rfl, ?_, _, _, _, _, _, _, _, _, rfl⟩
                      rw [mput_same]
                      unfold partsD
                      rw [List.map_append, List.map_append]
                      have ep : (r.map fun w => PyData.tuple (strsD (Txt.split w ":"))) = (r.map fun w => toA (Txt.split w ":")).map attrD := by
                        rw [List.map_map]
                        refine List.map_congr_left fun w hw => ?_
                        show _ = attrD (toA (Txt.split w ":"))
                        rw [strs2 (h2all w hw)]
                        rfl
                      rw [ep]
                      rfl
        · rintro ρ M4 ⟨gw4, hmu4, qs, hq, hmf4, a4, a5, a6, a7, a8, a9, a10, a11, rfl⟩
          have : allSome (pp.map dimLaw) = some qs := by rw [hq, allSome_of]
          rw [this] at k
          refine ⟨fo, _, rfl, hmf4, ?_⟩
          exact k _ (gw4.del nfo)
end
end K41
set_option Elab.async false
set_option linter.all false
set_option maxRecDepth 100000
set_option maxHeartbeats 1000000
set_option pp.maxSteps 1200
namespace K41
open PySem PySem.Spec PyProof.Rows L2 Lv
section
variable {P : Program} {w : World} {K : PySem.W.Frag} {mg : Str → Option Value} {base : Heap} {ca : Nat → Addr}
abbrev s__law_due : Stmt := top 42
theorem sc__law_due : FnScope ["text", "lists", "made"] ["text"] (defScope s__law_due) := ⟨rfl, rfl, rfl, by decide +kernel, rfl, by decide +kernel, by decide +kernel⟩
/-- a plan that is made, or none -/
def dueS (C : Addr) (M : Mem) (o : Option (List Part × List Str)) (s : S) : Prop := match o with
  | none => s = .n
  | some z => ∃ x, s = .a x ∧ PlanAt C M x z.1 z.2
inductive sp__law_due41 (C : Addr) (ss : List S) (M : Mem) (P : K2) (Z : X2) : Prop
  | mk (t : Str) (h0 : ss = [.s t]) (h1 : SmT t) (h2 : ∀ (s : S) (M' : Mem), Gw M M' → dueS C M' (readPlan t) s → P s M') : sp__law_due41 C ss M P Z
theorem dim_sm {ws : List Str} {q : Part} (h : dimLaw ws = some q) (hl : ws.length ≤ 10000) (hw : ∀ w, w ∈ ws → w.length ≤ 10000) : q.1.length ≤ 10000 ∧ q.2.length ≤ 10000 ∧ ∀ a, a ∈ q.2 → a.1.length ≤ 10000 := by
  match ws with
  | [] => cases h
  | [w] => cases h
  | w :: n :: r =>
    have h : (if (decide (w = "dim") && (r.map fun w => Txt.split w ":").all pairOk) = true then some (n, r.map fun w => toA (Txt.split w ":")) else none) = some q := h
    split at h
    · injection h with h
      subst h
      rw [List.length_cons, List.length_cons] at hl
      refine ⟨hw n (by simp), by rw [List.length_map]; omega, fun a ha => ?_⟩
      obtain ⟨w, hw2, rfl⟩ := List.mem_map.mp ha
      have h1 := hw w (List.mem_cons_of_mem _ (List.mem_cons_of_mem _ hw2))
      show ((Txt.split w ":").getD 0 Str.empty).length ≤ 10000
      cases e : Txt.split w ":" with
      | nil => exact absurd e (split_nilP _ _)
      | cons x l =>
        have := sub_lenP ":" w x (by rw [e]; simp)
        show x.length ≤ 10000
        omega
    · cases h
theorem law_sm {t : Str} {ps : List Part} {ms : List Str} (sm : SmT t) (h : lawPlan t = some (ps, ms)) : PlanSm ps ms := by
  have hwd := sm.words
  have hpl := sm.parts
  have el : (readParts t).length = (Txt.split t "; ").length := List.length_map _
  rw [← el] at hpl
  unfold lawPlan at h
  obtain ⟨L, hLe⟩ : ∃ L, L = readParts t := ⟨_, rfl⟩
  rw [← hLe] at hwd hpl h
  clear hLe el
  obtain ⟨pp, h1, h2, h3, h4⟩ : ∃ pp : List (List Str), allSome (pp.map dimLaw) = some ps ∧ (∀ ws, ws ∈ pp → ws ∈ L) ∧ pp.length ≤ L.length ∧ (ms = [] ∨ ∃ w, w :: ms ∈ L) := by
    have key : ∀ (pp : List (List Str)) (ms' : List Str), (match allSome (pp.map dimLaw) with | none => none | some ps => some (ps, ms')) = some (ps, ms) → allSome (pp.map dimLaw) = some ps ∧ ms' = ms := fun pp ms' h => by
      cases e : allSome (pp.map dimLaw) with
      | none => rw [e] at h; cases h
      | some ps' => rw [e] at h; cases h; exact ⟨rfl, rfl⟩
    cases e : lawPre L with
    | none => rw [e] at h; cases h
    | some x =>
      obtain ⟨pp, ms'⟩ := x
      rw [e] at h
      obtain ⟨k1, rfl⟩ := key pp ms' h
      refine ⟨pp, k1, ?_⟩
      unfold lawPre at e
      split at e
      · rename_i w l hl
        split at e
        · split at e
          · cases e
          · cases e
            exact ⟨fun ws hw => List.dropLast_subset _ hw, by rw [List.length_dropLast]; omega, .inr ⟨w, List.mem_of_getLast? hl⟩⟩
        · cases e
          exact ⟨fun ws hw => hw, Nat.le_refl _, .inl rfl⟩
      · cases e
        exact ⟨fun ws hw => hw, Nat.le_refl _, .inl rfl⟩
  have hm := allSome_map h1
  have lp := congrArg List.length hm
  rw [List.length_map, List.length_map] at lp
  have hms : ms.length ≤ 10000 ∧ ∀ m, m ∈ ms → m.length ≤ 10000 := by
    rcases h4 with rfl | ⟨w, hw⟩
    · exact ⟨by simp, fun m hm => by cases hm⟩
    · have := hwd _ hw
      rw [List.length_cons] at this
      exact ⟨by omega, fun m hm => this.2 m (List.mem_cons_of_mem _ hm)⟩
  refine ⟨by omega, hms.1, hms.2, fun q hq => ?_⟩
  have hq2 : some q ∈ pp.map dimLaw := by rw [hm]; exact List.mem_map_of_mem hq
  obtain ⟨ws, hws, e⟩ := List.mem_map.mp hq2
  obtain ⟨hw1, hw2⟩ := hwd ws (h2 ws hws)
  exact dim_sm e hw1 hw2
theorem ok__law_due41 {f C : Addr} {fd : FuncData} (F : Fun K "_law_due" "_law_due" s__law_due f fd) (Z : Tx mg ca) (exm : PySem.W.exmOne K (.ref (ca 2)) (.ref (ca 2)) = some true) (C__law_plan_of : Cal P w K mg base 1 "_law_plan_of" ["text"] sp__law_plan_of)
    (I_Plan : ICal P w K mg base 3 C "Plan" ["self", "dimensions", "measures"] (sp_Plan_init C (ca 2))) : FnOk2 P w K mg base 5 f fd ["text"] (sp__law_due41 C) := by
  refine fn2 F sc__law_due (fun ss M P Z h => ?_) (fun cdv A outer s H E cx => ?_)
  · obtain ⟨t, rfl, _⟩ := h; rfl
  · have N_NoPlan : Names (cx2 P w K mg base ["text", "lists", "made"] "_law_due" s__law_due f cdv A outer s H E) "NoPlan" (.ref (ca 2)) := ⟨rfl, by decide, .inl Z.k_NoPlan⟩
    refine ⟨_, (qs_cons (qs_set 1 cx.nd (qe_call cx C__law_plan_of (by omega) rfl (qa_cons (qv 0) qa_nil)))
    (qs_cons (qs_set 2 cx.nd qe_non)
    (qs_cons (qs_if (qt_is (qv 1) qe_non) (qs_one (qs_ret qe_non)) qs_nil)
    (qs_cons (qs_tryM cx rfl rfl (fun W pn xe cx => (qs_one (qs_set 2 cx.nd (qe_make cx I_Plan (by omega) rfl (qa_cons (qe_ix (qv 1) qe_int) (qa_cons (qe_ix (qv 1) qe_int) qa_nil)))))) (.cons N_NoPlan (fun a pn => (qs_one (qs_set 2 cx.nd qe_non))) .nil))
    (qs_one (qs_ret (qv 2))))))), ?_⟩
    rintro ss M Pq Z ⟨t, rfl, sm, k⟩
    refine ⟨t, rfl, sm, fun M1 gw1 => ?_⟩
    rw [← due_is] at k
    unfold lawDue at k
    cases e : lawPlan t with
    | none =>
      rw [e] at k
      exact k .n M1 gw1 rfl
    | some z =>
      obtain ⟨ps, ms⟩ := z
      rw [e] at k
      have psm := law_sm sm e
      refine ⟨_, atI_zero _ _, _, rfl, ?_⟩
      refine fun x hx => ⟨x, ps, ms, _, rfl, .inl rfl, mput_same, psm, ?_⟩
      have k : ∀ (s : S) (M' : Mem), Gw M M' → dueS C M' (if planFault ps ms = none then some (ps, ms) else none) s → Pq s M' := k
      have gx : ∀ o, Gw M (mput M1 x o) := fun o => gw1.trans (Gw.refl.put hx)
      cases ef : planFault ps ms with
      | none =>
        rw [ef, if_pos rfl] at k
        rw [mput2]
        exact ⟨rfl, k (.a x) _ (gx _) ⟨x, rfl, mput_same⟩⟩
      | some w =>
        rw [ef, if_neg (by simp)] at k
        refine ⟨true, exm, ?_⟩
        exact k .n _ (gx _) rfl
end
end K41
set_option Elab.async false
set_option linter.all false
set_option maxRecDepth 100000
set_option maxHeartbeats 1000000
set_option pp.maxSteps 1200
namespace K41
open PySem PySem.Spec PyProof.Rows L2 Lv
section
variable {P : Program} {w : World} {K : PySem.W.Frag} {mg : Str → Option Value} {base : Heap} {ca : Nat → Addr}
abbrev s_DayError___init__ : Stmt := inClass (top 1) 0
theorem sc_DayError___init__ : FnScope ["self", "what"] ["self", "what"] (defScope s_DayError___init__) := ⟨rfl, rfl, rfl, by decide +kernel, rfl, by decide +kernel, by decide +kernel⟩
theorem ok_DayError_init {f : Addr} {fd : FuncData} (F : Fun K "__init__" "DayError.__init__" s_DayError___init__ f fd) : FnOk P w K mg base (L2N.CX P w) 1 f fd ["self", "what"] (spXI K) := by
  refine Fun.okN F sc_DayError___init__ (fun vs H Q E h => ?_) (fun cdv A outer s H vs Q E hr h => ?_)
  · obtain ⟨a, C, v, rfl, _⟩ := h; rfl
  · obtain ⟨a, C, v, rfl, T, no, ha, k⟩ := h
    refine ⟨_, pss_one (ps_ost (pv 0) (pv 1) rfl), ?_⟩
    exact ⟨_, rfl, _, rfl, a, C, rfl, T, no, .inl ⟨ha, fun d hd hda => k d hd hda⟩⟩
theorem ok_DayError_initH {f : Addr} {fd : FuncData} (F : Fun K "__init__" "DayError.__init__" s_DayError___init__ f fd) : L2H.FnH P w K mg base (L2N.CX P w) 1 f fd ["self", "what"] (spXI K) := by
  refine Fun.okH F sc_DayError___init__ (fun vs H Q E h => ?_) (fun cdv A outer s H vs Q E p h => ?_)
  · obtain ⟨a, C, v, rfl, _⟩ := h; rfl
  · obtain ⟨a, C, v, rfl, T, no, ha, k⟩ := h
    refine ⟨_, pss_one (ps_ost (pv 0) (pv 1) rfl), ?_⟩
    exact ⟨_, rfl, _, rfl, a, C, rfl, T, no, .inl ⟨ha, fun d hd hda => k d hd hda⟩⟩
structure Er (K : PySem.W.Frag) (ca : Nat → Addr) : Prop where
  xc : XC K (ca 11)
  exm : PySem.W.exmOne K (.ref (ca 11)) (.ref (ca 11)) = some true
  day : PySem.W.kitOne K (.ref (ca 11)) (.ref (ca 1)) = some true
  ve : PySem.W.kitOne K (.ref (ca 11)) (.type "ValueError") = some true
  any : PySem.W.kitAny K (.ref (ca 11)) [.ref (ca 12), .ref (ca 4), .ref (ca 7), .ref (ca 8), .ref (ca 2), .ref (ca 3), .ref (ca 5), .ref (ca 10)] = some false
  any2 : PySem.W.kitAny K (.ref (ca 11)) [.ref (ca 9), .ref (ca 6)] = some false
theorem gw_put3 {M M' : Mem} {r : Addr} {o : MO} (h : Gw M M') (hr : M' r = none) : Gw M (mput M' r o) := fun q u e => by
  have h1 := h q u e
  rw [mput_ne fun z => by subst z; rw [hr] at h1; cases h1]
  exact h1
inductive sp_law (ss : List S) (M : Mem) (P : K2) (Z : X2) : Prop
  | mk (ns : List Int) (h0 : ss = [.d (.list (intsD ns))]) (h1 : ns.length ≤ 63) (h2 : ∀ M', P (.b true) M') : sp_law  ss M P Z
theorem cut_n {α : Type} (xs : List α) (n : Nat) (h : n < 1000 := by decide) : cutD xs none (some (n : Int)) = xs.take n := by
  have e : HT.sIx xs.length xs.length (some (n : Int)) = min n xs.length := HT.sIx_nat _ _ _
  have e0 : HT.sIx xs.length 0 none = 0 := rfl
  unfold Lv.cutD
  rw [e, e0, List.drop_zero, Nat.sub_zero]
  rcases Nat.le_total n xs.length with h | h
  · rw [Nat.min_eq_left h]
  · rw [Nat.min_eq_right h, List.take_length, List.take_of_length_le h]
theorem Kp.keep {p g q : Addr} {M M' : Mem} {o : MO} (kp : Kp p g M M') (h : M q = some o) (qp : q ≠ p) (qg : q ≠ g) : M' q = some o := kp q o h qp qg
abbrev s_law : Stmt := top 43
theorem sc_law : FnScope ["script", "tray", "some", "k", "spoils", "lists", "text", "j", "due", "found", "refused", "e"] ["script"] (defScope s_law) := ⟨rfl, rfl, rfl, by decide +kernel, rfl, by decide +kernel, by decide +kernel⟩
def odd20 : List Str := ["", "dim", "sum", "dim a", "sum a", "a:day", "a:first", "b:last", "c:before", "a:", ":day", "a:days", "day", "a", "abcdefghi", "A", "a1", "-", "dim a a:day", "sum a a"]
theorem odd20_len : ∀ x, x ∈ odd20 → x.length ≤ 61 := by decide +kernel
theorem smt_of {t : Str} (h : t.length ≤ 9000) : SmT t := by
  refine ⟨by omega, by have := PyProof.Rows.split_le t "; "; omega, fun p hp => ?_⟩
  unfold readParts at hp
  obtain ⟨q, hq, rfl⟩ := List.mem_map.mp hp
  have h1 := sub_lenP "; " t q hq
  refine ⟨by have := PyProof.Rows.split_le q " "; omega, fun x hx => ?_⟩
  have h2 := sub_lenP " " q x hx
  omega
theorem dueS.gw {C : Addr} {M M' : Mem} {o : Option (List Part × List Str)} {s : S} (h : dueS C M o s) (g : Gw M M') : dueS C M' o s := by
  cases o with
  | none => exact h
  | some z => obtain ⟨x, e, p⟩ := h; exact ⟨x, e, g _ _ p⟩
theorem ok_lawF {f C : Addr} {fd : FuncData} (F : Fun K "law" "law" s_law f fd) (Z : Tx mg ca) (R : Er K ca) (C__law_tray : Cal P w K mg base 1 "_law_tray" ["script"] sp__law_tray) (C__law_draw : Cal P w K mg base 1 "_law_draw" ["tray", "many"] sp__law_draw)
    (C__law_lists : Cal P w K mg base 4 "_law_lists" ["tray", "most", "wide"] sp__law_lists) (C__law_plan_shown : Cal P w K mg base 1 "_law_plan_shown" ["some", "sums"] sp__law_plan_shown) (C__law_spoilt : Cal P w K mg base 4 "_law_spoilt" ["tray", "text", "some"] sp__law_spoilt)
    (C__law_due : Cal P w K mg base 5 "_law_due" ["text"] (sp__law_due41 C)) (CF_read_plan : CalF P w K mg base 5 "read_plan" ["text"] (sp_read_planF C (ca 11))) (E_Plan : EqCal P w K mg base 1 C ["self", "other"] (sp_Plan_eq C)) : FnOkF P w K mg base 7 f fd ["script"] sp_law := by
  refine fn2F F sc_law (fun ss M P Z h => ?_) (fun cdv A outer s H E cxf => ?_)
  · obtain ⟨ns, rfl, _⟩ := h; rfl
  · have cx := cxf.cx
    have N_NoText : Names (cx2F P w K mg base ["script", "tray", "some", "k", "spoils", "lists", "text", "j", "due", "found", "refused", "e"] "law" s_law f cdv A outer s H E) "NoText" (.ref (ca 11)) := ⟨rfl, by decide, .inl Z.k_NoText⟩
    refine ⟨_, (qs_cons (qs_set 1 cx.nd (qe_call cx C__law_tray (by omega) rfl (qa_cons (qv 0) qa_nil)))
    (qs_cons (qs_set 2 cx.nd (qe_lst (qa_cons qe_str (qa_cons qe_str (qa_cons qe_str (qa_cons qe_str (qa_cons qe_str (qa_cons qe_str (qa_cons qe_str (qa_cons qe_str (qa_cons qe_str (qa_cons qe_str (qa_cons qe_str (qa_cons qe_str qa_nil))))))))))))))
    (qs_cons (qs_set 2 cx.nd (qe_add (qv 2) (qe_lst (qa_cons qe_str (qa_cons qe_str (qa_cons qe_str (qa_cons qe_str (qa_cons qe_str (qa_cons qe_str (qa_cons qe_str (qa_cons qe_str qa_nil)))))))))))
    (qs_cons (qs_for cx (qi_rng1 rfl Z.z_range (qa_cons (qe_add qe_int (qe_len rfl Z.z_len (qa_cons (qe_sl (qv 0) qo_none (qo_some qe_int)) qa_nil))) qa_nil)) (qgn 3 cx.nd)
    (qs_cons (qs_set 4 cx.nd (qe_call cx C__law_draw (by omega) rfl (qa_cons (qv 1) (qa_cons qe_int qa_nil))))
    (qs_cons (qs_set 5 cx.nd (qe_call cx C__law_lists (by omega) rfl (qa_cons (qv 1) (qa_cons (qe_ix (qe_lst (qa_cons qe_int (qa_cons qe_int qa_nil))) (qe_call cx C__law_draw (by omega) rfl (qa_cons (qv 1) (qa_cons qe_int qa_nil)))) (qa_cons (qe_call cx C__law_draw (by omega) rfl (qa_cons (qv 1) (qa_cons qe_int qa_nil))) qa_nil)))))
    (qs_cons (qs_set 6 cx.nd (qe_call cx C__law_plan_shown (by omega) rfl (qa_cons (qe_ix (qv 5) qe_int) (qa_cons (qe_ix (qv 5) qe_int) qa_nil))))
    (qs_cons (qs_for cx (qi_rng1 rfl Z.z_range (qa_cons (qv 4) qa_nil)) (qgn 7 cx.nd)
    (qs_one (qs_set 6 cx.nd (qe_call cx C__law_spoilt (by omega) rfl (qa_cons (qv 1) (qa_cons (qv 6) (qa_cons (qv 2) qa_nil)))))))
    (qs_cons (qs_set 8 cx.nd (qe_call cx C__law_due (by omega) rfl (qa_cons (qv 6) qa_nil)))
    (qs_cons (qs_set 9 cx.nd qe_non)
    (qs_cons (qs_set 10 cx.nd (qe_lst qa_nil))
    (qs_cons (qs_tryF cxf rfl rfl rfl (i := 11) rfl rfl N_NoText (fun W pn xe cxf => have cx := cxf.cx; (qs_one (qs_set 9 cx.nd (qe_callF cxf CF_read_plan (by omega) rfl (qa_cons (qv 6) qa_nil))))) (fun a pn => (qs_one (qs_set 10 cx.nd (qe_lst (qa_cons (qe_whatH (K := K) (qv 11)) (qa_cons (qe_isXH (K := K) (u := .ref (ca 1)) rfl Z.z_isinstance (qa_cons (qv 11) (qa_cons (qe_cls rfl Z.k_DayError) qa_nil))) (qa_cons (qe_isXH (K := K) (u := .type "ValueError") rfl Z.z_isinstance (qa_cons (qv 11) (qa_cons (qe_ty rfl Z.z_ValueError rfl) qa_nil))) (qa_cons (qe_isXTH (K := K) rfl Z.z_isinstance (qv 11) (.cons (pe_cls rfl Z.k_NoDeskRow) (.own _) rfl (.cons (pe_cls rfl Z.k_NoFact) (.own _) rfl (.cons (pe_cls rfl Z.k_NoGroup) (.own _) rfl (.cons (pe_cls rfl Z.k_NoMeasure) (.own _) rfl (.cons (pe_cls rfl Z.k_NoPlan) (.own _) rfl (.cons (pe_cls rfl Z.k_NoRow) (.own _) rfl (.cons (pe_cls rfl Z.k_NoThing) (.own _) rfl (.cons (pe_cls rfl Z.k_NoTime) (.own _) rfl .nil))))))))) (qa_cons (qe_isXTH (K := K) rfl Z.z_isinstance (qv 11) (.cons (pe_cls rfl Z.k_NoWatch) (.own _) rfl (.cons (pe_cls rfl Z.k_Twice) (.own _) rfl .nil))) qa_nil))))))))))
    (qs_cons (qs_if (qt_w (qw_and (qt_is (qv 8) qe_non) (qw_and1 (qt_neD cx (qv 10) (qe_lst (qa_cons (qv 6) (qa_cons qe_bl (qa_cons qe_bl (qa_cons qe_bl (qa_cons qe_bl qa_nil)))))))))) (qs_one (qs_ret qe_bl)) qs_nil)
    (qs_one (qs_if (qt_w (qw_and (qt_isnot (qv 8) qe_non) (qw_and1 (qt_w (qw_or (qt_neD cx (qv 10) (qe_lst qa_nil)) (qw_or1 (qt_ownNe cx E_Plan (by omega) (qv 9) (qv 8)))))))) (qs_one (qs_ret qe_bl)) qs_nil))))))))))))
    (qs_one (qs_ret qe_bl)))))), ?_⟩
    rintro ss M Pq Z ⟨ns, rfl, hn, k⟩
    refine ⟨ns, rfl, hn, fun p g M1 hp hg gw dk => ?_⟩
    refine ⟨_, _, .inl rfl, .inl rfl, by decide, ?_⟩
    refine ⟨_, .inl rfl, _, rfl, ?_⟩
    have c16 : (cutD (intsD ns) none (some 16)).length ≤ 16 := by
      have := cut_n (intsD ns) 16
      rw [show (some (16 : Int)) = some ((16 : Nat) : Int) from rfl, this, List.length_take]
      omega
    obtain ⟨n16, hn16⟩ : ∃ n16, (cutD (intsD ns) none (some 16)).length = n16 := ⟨_, rfl⟩
    rw [hn16] at c16 ⊢
    refine ⟨by omega, by omega, forR 0 (3 + (n16 : Int)).toNat (fun i ρ M' => Ty M' p g (1000 * i) ∧ ∃ a3 a4 a5 a6 a7 a8 a9 a10 a11, ρ = [some (.d (.list (intsD ns))), some (.a p), some (.d (.list (strsD odd20))), a3, a4, a5, a6, a7, a8, a9, a10, a11]) ?_ ?_ ?_⟩
    · exact ⟨dk.grow (by omega), _, _, _, _, _, _, _, _, _, rfl⟩
    · rintro i ρ M2 hi ⟨dk2, a3, a4, a5, a6, a7, a8, a9, a10, a11, rfl⟩
      have hi19 : i < 19 := by omega
      refine ⟨p, g, 4, _, rfl, by omega, by omega, dk2, by omega, fun sp M3 s0 s1 kp3 dk3 => ?_⟩
      refine ⟨p, g, 2, _, rfl, by omega, by omega, dk3, by omega, fun r1 M4 b0 b1 kp4 dk4 => ?_⟩
      obtain ⟨most, m0, m1, hat⟩ : ∃ most : Int, 1 ≤ most ∧ most ≤ 4 ∧ atI [PyData.int 2, .int 4] r1 = some (.int most) := by
        have : r1 = 0 ∨ r1 = 1 := by omega
        rcases this with rfl | rfl
        · exact ⟨2, by omega, by omega, rfl⟩
        · exact ⟨4, by omega, by omega, rfl⟩
      refine ⟨_, hat, ?_⟩
      refine ⟨p, g, 2, _, rfl, by omega, by omega, dk4, by omega, fun wd M5 w0 w1 kp5 dk5 => ?_⟩
      refine ⟨p, g, most, wd, _, rfl, m0, m1, w0, by omega, dk5, by omega, fun ps ms M6 good _ _ kp6 dk6 => ?_⟩
      refine ⟨_, atI_zero _ _, _, atI_k (i := 1) rfl rfl, ?_⟩
      refine ⟨ps, ms, rfl, good, fun M7 gw7 => ?_⟩
      have dk7 := dk6.gw gw7
      have hlen := (planShow_len good).1
      refine ⟨by omega, by omega, forR 0 sp.toNat (fun j ρ M' => Ty M' p g (1000 * i + 600 + 6 * j) ∧ ∃ (x : Str) (a7 : Option S), x.length + 100 ≤ 1110 * 2 ^ j ∧ ρ = [some (.d (.list (intsD ns))), some (.a p), some (.d (.list (strsD odd20))), some (.i (0 + (i : Int))), some (.i sp), some (.d (.list [.list (partsD ps), .list (strsD ms)])), some (.s x), a7, a8, a9, a10, a11]) ?_ ?_ ?_⟩
      · exact ⟨dk7.grow (by omega), _, _, by omega, rfl⟩
      · rintro j ρ M8 hj ⟨dk8, x, a7, hx, rfl⟩
        have hj3 : j < 3 := by omega
        have hp : 2 ^ j ≤ 4 := by
          have : 2 ^ j ≤ 2 ^ 2 := Nat.pow_le_pow_right (by decide) (by omega)
          exact this
        refine ⟨p, g, x, odd20, _, rfl, by omega, by decide, by decide, odd20_len, dk8, by omega, fun y M9 hy kp9 dk9 => ?_⟩
        exact ⟨dk9.grow (by omega), y, _, by rw [Nat.pow_succ]; omega, rfl⟩
      · rintro ρ M8 ⟨dk8, t, a7, hx, rfl⟩
        have hp : 2 ^ sp.toNat ≤ 8 := by
          have : 2 ^ sp.toNat ≤ 2 ^ 3 := Nat.pow_le_pow_right (by decide) (by omega)
          exact this
        have sm := smt_of (t := t) (by omega)
        refine ⟨t, rfl, sm, fun due M9 gw9 hdue => ?_⟩
        refine ⟨t, rfl, sm, ?_⟩
        have fin : ∀ M', Gw M8 M' → Ty M' p g (1000 * (i + 1)) := fun M' g => (dk8.gw g).grow (by omega)
        cases e : readPlan t with
        | none =>
          rw [e] at hdue
          have hdue : due = .n := hdue
          subst hdue
          intro M10 gw10
          refine ⟨true, R.exm, fun a ha => ?_⟩
          refine ⟨a, _, _, rfl, mput_same, R.xc, ?_⟩
          refine ⟨a, _, _, _, true, rfl, rfl, .own _, mput_same, R.xc, R.day, ?_⟩
          refine ⟨a, _, _, _, true, rfl, rfl, .ty _, mput_same, R.xc, R.ve, ?_⟩
          refine ⟨a, _, _, false, rfl, mput_same, R.xc, R.any, ?_⟩
          refine ⟨a, _, _, false, rfl, mput_same, R.xc, R.any2, ?_⟩
          have ee : PyData.eqv (.list [.str t, .bool true, .bool true, .bool false, .bool false]) (.list [.str t, .bool true, .bool true, .bool false, .bool false]) = true := by simp [PyData.eqv, PyData.eqvAll]
          refine ⟨_, _, .inl rfl, .inl rfl, by simp [PyData.depth, PyData.depthAll], ?_⟩
          rw [ee]
          exact ⟨fin _ (gw_put3 (gw9.trans gw10) ha), _, _, _, _, _, _, _, _, _, rfl⟩
        | some z =>
          obtain ⟨ps2, ms2⟩ := z
          rw [e] at hdue
          obtain ⟨x, rfl, plx⟩ := hdue
          intro y M10 hy gw10 ply
          refine ⟨_, _, .inl rfl, .inl rfl, by simp [PyData.depth, PyData.depthAll], ?_⟩
          have plx := gw10 _ _ plx
          refine byF rfl ?_
          refine ⟨y, x, _, _, rfl, rfl, ply, plx, y, x, ps2, ps2, ms2, ms2, rfl, ply, plx, ?_⟩
          rw [decide_eq_true ⟨rfl, rfl⟩]
          exact ⟨fin _ (gw9.trans gw10), _, _, _, _, _, _, _, _, _, rfl⟩
    · rintro ρ M2 _
      exact k M2
theorem ok_law {f C : Addr} {fd : FuncData} (F : Fun K "law" "law" s_law f fd) (Z : Tx mg ca) (R : Er K ca) (C__law_tray : Cal P w K mg base 1 "_law_tray" ["script"] sp__law_tray) (C__law_draw : Cal P w K mg base 1 "_law_draw" ["tray", "many"] sp__law_draw)
    (C__law_lists : Cal P w K mg base 4 "_law_lists" ["tray", "most", "wide"] sp__law_lists) (C__law_plan_shown : Cal P w K mg base 1 "_law_plan_shown" ["some", "sums"] sp__law_plan_shown) (C__law_spoilt : Cal P w K mg base 4 "_law_spoilt" ["tray", "text", "some"] sp__law_spoilt)
    (C__law_due : Cal P w K mg base 5 "_law_due" ["text"] (sp__law_due41 C)) (CF_read_plan : CalF P w K mg base 5 "read_plan" ["text"] (sp_read_planF C (ca 11))) (E_Plan : EqCal P w K mg base 1 C ["self", "other"] (sp_Plan_eq C)) : FnOk2 P w K mg base 7 f fd ["script"] sp_law :=
  FnOkG.down (ok_lawF F Z R C__law_tray C__law_draw C__law_lists C__law_plan_shown C__law_spoilt C__law_due CF_read_plan E_Plan) fun ss M P Z ⟨ns, h1, h2, h3⟩ => ⟨ns, h1, h2, h3⟩
end
end K41
set_option Elab.async false
set_option linter.all false
set_option maxRecDepth 100000
set_option maxHeartbeats 1000000
set_option pp.maxSteps 1200
namespace K41
open PySem PySem.Spec PyProof.Rows L2 Lv
section
variable {P : Program} {w : World} {K : PySem.W.Frag} {mg : Str → Option Value} {base : Heap} {ca : Nat → Addr}
def caL (l : List Addr) (i : Nat) : Addr := l.getD i 0
theorem e_cond {K : PySem.W.Frag} {C : Addr} (h2 : PySem.W.isClsIn K C = true) (h3 : PySem.W.typeIn K (.ref C) = some (.type "type")) : ((PySem.W.clsIn K C).isSome && PySem.W.typeIn K (.ref C) == some (.type "type")) = true := by
  have h2' : (PySem.W.clsIn K C).isSome = true := h2
  rw [h2', h3] <;> rfl
theorem e_exm {K : PySem.W.Frag} {e C : Addr} {b : Bool} (h1 : PySem.W.subIn K (.ref C) (.type "BaseException") = some true) (h2 : PySem.W.isClsIn K C = true) (h3 : PySem.W.typeIn K (.ref C) = some (.type "type")) (h4 : PySem.W.subIn K (.ref e) (.ref C) = some b) :
    PySem.W.exmOne K (.ref e) (.ref C) = some b := by
  have e1 : (PySem.W.subIn K (.ref C) (.type "BaseException") == some true) = true := by rw [h1] <;> rfl
  show (if (PySem.W.subIn K (.ref C) (.type "BaseException") == some true) = true then (if ((PySem.W.clsIn K C).isSome && PySem.W.typeIn K (.ref C) == some (.type "type")) = true then PySem.W.subIn K (.ref e) (.ref C) else none) else none) = some b
  rw [if_pos e1, if_pos (e_cond h2 h3)]
  exact h4
theorem e_kit {K : PySem.W.Frag} {e C : Addr} {b : Bool} (h2 : PySem.W.isClsIn K C = true) (h3 : PySem.W.typeIn K (.ref C) = some (.type "type")) (h4 : PySem.W.subIn K (.ref e) (.ref C) = some b) (h5 : PySem.W.subIn K (.ref e) (.ref e) = some true) :
    PySem.W.kitOne K (.ref e) (.ref C) = some b := by
  show (if ((Value.ref e) == Value.ref C) = true then some true else (if ((PySem.W.clsIn K C).isSome && PySem.W.typeIn K (.ref C) == some (.type "type")) = true then PySem.W.subIn K (.ref e) (.ref C) else none)) = some b
  split
  · rename_i h
    have h' : e = C := by simpa using h
    subst h'
    rw [h5] at h4
    exact h4
  · rw [if_pos (e_cond h2 h3)]
    exact h4
theorem e_kitT {K : PySem.W.Frag} {e : Addr} {n : String} {b : Bool} (hm : PySem.W.kitMeta n = true) (h4 : PySem.W.subIn K (.ref e) (.type n) = some b) : PySem.W.kitOne K (.ref e) (.type n) = some b := by
  show (if ((Value.ref e) == Value.type n) = true then some true else (if PySem.W.kitMeta n = true then PySem.W.subIn K (.ref e) (.type n) else none)) = some b
  rw [if_neg (by simp), if_pos hm]
  exact h4
theorem e_anyN {K : PySem.W.Frag} {t : Value} : PySem.W.kitAny K t [] = some false := rfl
theorem e_anyF {K : PySem.W.Frag} {t c : Value} {r : List Value} {b : Bool} (h : PySem.W.kitOne K t c = some false) (h2 : PySem.W.kitAny K t r = some b) : PySem.W.kitAny K t (c :: r) = some b := by
  show (match PySem.W.kitOne K t c with | some true => some true | some false => PySem.W.kitAny K t r | none => none) = some b
  rw [h]
  exact h2
theorem bnd1 {K : PySem.W.Frag} {x qual : Str} {st : Stmt} {f : Addr} {fd : FuncData} {p0 : Str} (F : Fun K x qual st f fd) (h : ∀ (kV doc pm : Value) (an : Option Addr) (cdv ct : Value) (a0 : Value), bindArgs (PySem.W.fnOf x qual (defArgs st) (defBody st) (defScope st) .none kV doc pm an cdv ct) ⟨[a0], []⟩ = pure (([p0] : List Str).zip [a0])) : Binds K fd [p0] [] :=
  F.binds fun kV doc pm an cdv ct us hl => match us, hl with | [a0], _ => h kV doc pm an cdv ct a0
theorem bnd2 {K : PySem.W.Frag} {x qual : Str} {st : Stmt} {f : Addr} {fd : FuncData} {p0 p1 : Str} (F : Fun K x qual st f fd) (h : ∀ (kV doc pm : Value) (an : Option Addr) (cdv ct : Value) (a0 a1 : Value), bindArgs (PySem.W.fnOf x qual (defArgs st) (defBody st) (defScope st) .none kV doc pm an cdv ct) ⟨[a0, a1], []⟩ = pure (([p0, p1] : List Str).zip [a0, a1])) : Binds K fd [p0, p1] [] :=
  F.binds fun kV doc pm an cdv ct us hl => match us, hl with | [a0, a1], _ => h kV doc pm an cdv ct a0 a1
theorem bnd3 {K : PySem.W.Frag} {x qual : Str} {st : Stmt} {f : Addr} {fd : FuncData} {p0 p1 p2 : Str} (F : Fun K x qual st f fd) (h : ∀ (kV doc pm : Value) (an : Option Addr) (cdv ct : Value) (a0 a1 a2 : Value), bindArgs (PySem.W.fnOf x qual (defArgs st) (defBody st) (defScope st) .none kV doc pm an cdv ct) ⟨[a0, a1, a2], []⟩ = pure (([p0, p1, p2] : List Str).zip [a0, a1, a2])) : Binds K fd [p0, p1, p2] [] :=
  F.binds fun kV doc pm an cdv ct us hl => match us, hl with | [a0, a1, a2], _ => h kV doc pm an cdv ct a0 a1 a2
theorem kwB {vs zs : List V} {us ws : List Value} (r : Vals vs us) (q : Vals zs ws) : Vals (vs ++ zs) (us ++ ws) := r.append q
end
theorem all_mk {l : PySem.W.OpenLaw} {w : World} {K : PySem.W.Frag} {h : Heap} {mg : Str → Option Value} {fa c_DayError c_NoPlan c_NoRow c_NoFact c_NoThing c_Twice c_NoGroup c_NoMeasure c_NoWatch c_NoTime c_NoText c_NoDeskRow c_Plan f_is_name f_are_unlike_names f_DayError___init__ f_Plan___init__ f_Plan_dimensions f_Plan_measures f_Plan___eq__ f__law_tray f__law_draw f__law_name f__law_names f__law_lists f_dimension_in f__law_plan_shown f_read_plan f__law_sign f__law_sign_spoilt f__law_joint_spoilt f__law_words_spoilt f__law_spoilt f__law_plan_of f__law_due f_law : Addr} (X : K.In h) (G : h.Ns mainGlobals mg) (hfa : mg "law" = some (.ref fa))
    {nm_NoPlan q_NoPlan nm_NoText q_NoText : Str}
    {N_NoPlan N_NoText T_Plan___init__ E_Plan___init__ T_WAYS : Addr}
    {bs_NoPlan bm_NoPlan sub_NoPlan bs_NoText bm_NoText sub_NoText : List Value}
    {sn_NoPlan sn_NoText : List Str}
    {ab_NoPlan ab_NoText : Bool}
    {col_NoPlan col_NoText : Option Bool}
    {dd_NoPlan dd_NoText od_is_name an_is_name od_are_unlike_names an_are_unlike_names od_DayError___init__ an_DayError___init__ od_Plan___init__ an_Plan___init__ dT_Plan___init__ od_Plan_dimensions an_Plan_dimensions od_Plan_measures an_Plan_measures od_Plan___eq__ an_Plan___eq__ od__law_tray an__law_tray od__law_draw an__law_draw od__law_name an__law_name od__law_names an__law_names od__law_lists an__law_lists od_dimension_in an_dimension_in od__law_plan_shown an__law_plan_shown od_read_plan an_read_plan od__law_sign an__law_sign od__law_sign_spoilt an__law_sign_spoilt od__law_joint_spoilt an__law_joint_spoilt od__law_words_spoilt an__law_words_spoilt od__law_spoilt an__law_spoilt od__law_plan_of an__law_plan_of od__law_due an__law_due od_law an_law dW : Option Addr}
    {k0_NoPlan k1_NoPlan k2_NoPlan k3_NoPlan k5_NoPlan k0_NoText k1_NoText k2_NoText k3_NoText k5_NoText : Option Value}
    {t_LETTERS t_MOST_ATTRIBUTES t_MOST_DIMENSIONS t_MOST_LETTERS t_MOST_MEASURES w1 w2 w3 w4 : Tok}
    {oc_is_name kV_is_name dc_is_name pm_is_name cd_is_name ct_is_name oc_are_unlike_names kV_are_unlike_names dc_are_unlike_names pm_are_unlike_names cd_are_unlike_names ct_are_unlike_names oc_DayError___init__ kV_DayError___init__ dc_DayError___init__ pm_DayError___init__ cd_DayError___init__ ct_DayError___init__ oc_Plan___init__ kV_Plan___init__ dc_Plan___init__ pm_Plan___init__ cd_Plan___init__ ct_Plan___init__ oT_Plan___init__ oc_Plan_dimensions kV_Plan_dimensions dc_Plan_dimensions pm_Plan_dimensions cd_Plan_dimensions ct_Plan_dimensions oc_Plan_measures kV_Plan_measures dc_Plan_measures pm_Plan_measures cd_Plan_measures ct_Plan_measures oc_Plan___eq__ kV_Plan___eq__ dc_Plan___eq__ pm_Plan___eq__ cd_Plan___eq__ ct_Plan___eq__ oc__law_tray kV__law_tray dc__law_tray pm__law_tray cd__law_tray ct__law_tray oc__law_draw kV__law_draw dc__law_draw pm__law_draw cd__law_draw ct__law_draw oc__law_name kV__law_name dc__law_name pm__law_name cd__law_name ct__law_name oc__law_names kV__law_names dc__law_names pm__law_names cd__law_names ct__law_names oc__law_lists kV__law_lists dc__law_lists pm__law_lists cd__law_lists ct__law_lists oc_dimension_in kV_dimension_in dc_dimension_in pm_dimension_in cd_dimension_in ct_dimension_in oc__law_plan_shown kV__law_plan_shown dc__law_plan_shown pm__law_plan_shown cd__law_plan_shown ct__law_plan_shown oc_read_plan kV_read_plan dc_read_plan pm_read_plan cd_read_plan ct_read_plan oc__law_sign kV__law_sign dc__law_sign pm__law_sign cd__law_sign ct__law_sign oc__law_sign_spoilt kV__law_sign_spoilt dc__law_sign_spoilt pm__law_sign_spoilt cd__law_sign_spoilt ct__law_sign_spoilt oc__law_joint_spoilt kV__law_joint_spoilt dc__law_joint_spoilt pm__law_joint_spoilt cd__law_joint_spoilt ct__law_joint_spoilt oc__law_words_spoilt kV__law_words_spoilt dc__law_words_spoilt pm__law_words_spoilt cd__law_words_spoilt ct__law_words_spoilt oc__law_spoilt kV__law_spoilt dc__law_spoilt pm__law_spoilt cd__law_spoilt ct__law_spoilt oc__law_plan_of kV__law_plan_of dc__law_plan_of pm__law_plan_of cd__law_plan_of ct__law_plan_of oc__law_due kV__law_due dc__law_due pm__law_due cd__law_due ct__law_due oc_law kV_law dc_law pm_law cd_law ct_law : Value}
    {sl_is_name sl_are_unlike_names sl_DayError___init__ sl_Plan___init__ lT_Plan___init__ sl_Plan_dimensions sl_Plan_measures sl_Plan___eq__ sl__law_tray sl__law_draw sl__law_name sl__law_names sl__law_lists sl_dimension_in sl__law_plan_shown sl_read_plan sl__law_sign sl__law_sign_spoilt sl__law_joint_spoilt sl__law_words_spoilt sl__law_spoilt sl__law_plan_of sl__law_due sl_law lW : Array (Option Value)}
    {nT_Plan___init__ nW : Nat}
    (k_DayError : PySem.W.nsIn K mainGlobals "DayError" = some (some (.ref c_DayError)))
    (ic_DayError : PySem.W.isClsIn K c_DayError = true)
    (tc_DayError : PySem.W.typeIn K (.ref c_DayError) = some (.type "type"))
    (bc_DayError : PySem.W.subIn K (.ref c_DayError) (.type "BaseException") = some true)
    (k_NoPlan : PySem.W.nsIn K mainGlobals "NoPlan" = some (some (.ref c_NoPlan)))
    (ic_NoPlan : PySem.W.isClsIn K c_NoPlan = true)
    (tc_NoPlan : PySem.W.typeIn K (.ref c_NoPlan) = some (.type "type"))
    (bc_NoPlan : PySem.W.subIn K (.ref c_NoPlan) (.type "BaseException") = some true)
    (k_NoRow : PySem.W.nsIn K mainGlobals "NoRow" = some (some (.ref c_NoRow)))
    (ic_NoRow : PySem.W.isClsIn K c_NoRow = true)
    (tc_NoRow : PySem.W.typeIn K (.ref c_NoRow) = some (.type "type"))
    (bc_NoRow : PySem.W.subIn K (.ref c_NoRow) (.type "BaseException") = some true)
    (k_NoFact : PySem.W.nsIn K mainGlobals "NoFact" = some (some (.ref c_NoFact)))
    (ic_NoFact : PySem.W.isClsIn K c_NoFact = true)
    (tc_NoFact : PySem.W.typeIn K (.ref c_NoFact) = some (.type "type"))
    (bc_NoFact : PySem.W.subIn K (.ref c_NoFact) (.type "BaseException") = some true)
    (k_NoThing : PySem.W.nsIn K mainGlobals "NoThing" = some (some (.ref c_NoThing)))
    (ic_NoThing : PySem.W.isClsIn K c_NoThing = true)
    (tc_NoThing : PySem.W.typeIn K (.ref c_NoThing) = some (.type "type"))
    (bc_NoThing : PySem.W.subIn K (.ref c_NoThing) (.type "BaseException") = some true)
    (k_Twice : PySem.W.nsIn K mainGlobals "Twice" = some (some (.ref c_Twice)))
    (ic_Twice : PySem.W.isClsIn K c_Twice = true)
    (tc_Twice : PySem.W.typeIn K (.ref c_Twice) = some (.type "type"))
    (bc_Twice : PySem.W.subIn K (.ref c_Twice) (.type "BaseException") = some true)
    (k_NoGroup : PySem.W.nsIn K mainGlobals "NoGroup" = some (some (.ref c_NoGroup)))
    (ic_NoGroup : PySem.W.isClsIn K c_NoGroup = true)
    (tc_NoGroup : PySem.W.typeIn K (.ref c_NoGroup) = some (.type "type"))
    (bc_NoGroup : PySem.W.subIn K (.ref c_NoGroup) (.type "BaseException") = some true)
    (k_NoMeasure : PySem.W.nsIn K mainGlobals "NoMeasure" = some (some (.ref c_NoMeasure)))
    (ic_NoMeasure : PySem.W.isClsIn K c_NoMeasure = true)
    (tc_NoMeasure : PySem.W.typeIn K (.ref c_NoMeasure) = some (.type "type"))
    (bc_NoMeasure : PySem.W.subIn K (.ref c_NoMeasure) (.type "BaseException") = some true)
    (k_NoWatch : PySem.W.nsIn K mainGlobals "NoWatch" = some (some (.ref c_NoWatch)))
    (ic_NoWatch : PySem.W.isClsIn K c_NoWatch = true)
    (tc_NoWatch : PySem.W.typeIn K (.ref c_NoWatch) = some (.type "type"))
    (bc_NoWatch : PySem.W.subIn K (.ref c_NoWatch) (.type "BaseException") = some true)
    (k_NoTime : PySem.W.nsIn K mainGlobals "NoTime" = some (some (.ref c_NoTime)))
    (ic_NoTime : PySem.W.isClsIn K c_NoTime = true)
    (tc_NoTime : PySem.W.typeIn K (.ref c_NoTime) = some (.type "type"))
    (bc_NoTime : PySem.W.subIn K (.ref c_NoTime) (.type "BaseException") = some true)
    (k_NoText : PySem.W.nsIn K mainGlobals "NoText" = some (some (.ref c_NoText)))
    (ic_NoText : PySem.W.isClsIn K c_NoText = true)
    (tc_NoText : PySem.W.typeIn K (.ref c_NoText) = some (.type "type"))
    (bc_NoText : PySem.W.subIn K (.ref c_NoText) (.type "BaseException") = some true)
    (k_NoDeskRow : PySem.W.nsIn K mainGlobals "NoDeskRow" = some (some (.ref c_NoDeskRow)))
    (ic_NoDeskRow : PySem.W.isClsIn K c_NoDeskRow = true)
    (tc_NoDeskRow : PySem.W.typeIn K (.ref c_NoDeskRow) = some (.type "type"))
    (bc_NoDeskRow : PySem.W.subIn K (.ref c_NoDeskRow) (.type "BaseException") = some true)
    (xh1 : PySem.W.specialIn K (.builtin "object.__class__") "__get__" = some (some (.builtin "getset_descriptor.__get__")))
    (xh2 : PySem.W.takesIn K (.builtin "object.__class__") = some true)
    (xl_NoPlan : K.lookup c_NoPlan = some (excClassObj nm_NoPlan q_NoPlan c_NoPlan N_NoPlan bs_NoPlan bm_NoPlan true sn_NoPlan sub_NoPlan ab_NoPlan col_NoPlan dd_NoPlan k0_NoPlan k1_NoPlan k2_NoPlan k3_NoPlan k5_NoPlan "ValueError.__new__"))
    (xr_NoPlan : PySem.HandSPX.refsVE bm_NoPlan = true)
    (xs_NoPlan : PySem.W.findIn K (.ref c_NoPlan) "__setattr__" = some (some (.builtin "object.__setattr__")))
    (xk_NoPlan : PySem.W.keepIn K (.ref c_NoPlan) = true)
    (xw_NoPlan : PySem.W.findIn K (.ref c_NoPlan) "what" = some none)
    (xg_NoPlan : PySem.W.findIn K (.ref c_NoPlan) "__getattribute__" = some (some (.builtin "BaseException.__getattribute__")))
    (xgg_NoPlan : PySem.W.findIn K (.ref c_NoPlan) "__getattr__" = some none)
    (xd_NoPlan : PySem.W.hasDictIn K c_NoPlan = true)
    (xa_NoPlan : PySem.W.findIn K (.ref c_NoPlan) "__class__" = some (some (.builtin "object.__class__")))
    (xm_NoPlan : PySem.W.mroIn K c_NoPlan (.type "object") = some true)
    (xi_NoPlan : PySem.W.findIn K (.ref c_NoPlan) "__init__" = some (some (.ref f_DayError___init__)))
    (xsub_NoPlan_DayError : PySem.W.subIn K (.ref c_NoPlan) (.ref c_DayError) = some true)
    (xsub_NoPlan_NoPlan : PySem.W.subIn K (.ref c_NoPlan) (.ref c_NoPlan) = some true)
    (xsub_NoPlan_NoRow : PySem.W.subIn K (.ref c_NoPlan) (.ref c_NoRow) = some false)
    (xsub_NoPlan_NoFact : PySem.W.subIn K (.ref c_NoPlan) (.ref c_NoFact) = some false)
    (xsub_NoPlan_NoThing : PySem.W.subIn K (.ref c_NoPlan) (.ref c_NoThing) = some false)
    (xsub_NoPlan_Twice : PySem.W.subIn K (.ref c_NoPlan) (.ref c_Twice) = some false)
    (xsub_NoPlan_NoGroup : PySem.W.subIn K (.ref c_NoPlan) (.ref c_NoGroup) = some false)
    (xsub_NoPlan_NoMeasure : PySem.W.subIn K (.ref c_NoPlan) (.ref c_NoMeasure) = some false)
    (xsub_NoPlan_NoWatch : PySem.W.subIn K (.ref c_NoPlan) (.ref c_NoWatch) = some false)
    (xsub_NoPlan_NoTime : PySem.W.subIn K (.ref c_NoPlan) (.ref c_NoTime) = some false)
    (xsub_NoPlan_NoText : PySem.W.subIn K (.ref c_NoPlan) (.ref c_NoText) = some false)
    (xsub_NoPlan_NoDeskRow : PySem.W.subIn K (.ref c_NoPlan) (.ref c_NoDeskRow) = some false)
    (xsubVE_NoPlan : PySem.W.subIn K (.ref c_NoPlan) (.type "ValueError") = some true)
    (xl_NoText : K.lookup c_NoText = some (excClassObj nm_NoText q_NoText c_NoText N_NoText bs_NoText bm_NoText true sn_NoText sub_NoText ab_NoText col_NoText dd_NoText k0_NoText k1_NoText k2_NoText k3_NoText k5_NoText "ValueError.__new__"))
    (xr_NoText : PySem.HandSPX.refsVE bm_NoText = true)
    (xs_NoText : PySem.W.findIn K (.ref c_NoText) "__setattr__" = some (some (.builtin "object.__setattr__")))
    (xk_NoText : PySem.W.keepIn K (.ref c_NoText) = true)
    (xw_NoText : PySem.W.findIn K (.ref c_NoText) "what" = some none)
    (xg_NoText : PySem.W.findIn K (.ref c_NoText) "__getattribute__" = some (some (.builtin "BaseException.__getattribute__")))
    (xgg_NoText : PySem.W.findIn K (.ref c_NoText) "__getattr__" = some none)
    (xd_NoText : PySem.W.hasDictIn K c_NoText = true)
    (xa_NoText : PySem.W.findIn K (.ref c_NoText) "__class__" = some (some (.builtin "object.__class__")))
    (xm_NoText : PySem.W.mroIn K c_NoText (.type "object") = some true)
    (xi_NoText : PySem.W.findIn K (.ref c_NoText) "__init__" = some (some (.ref f_DayError___init__)))
    (xsub_NoText_DayError : PySem.W.subIn K (.ref c_NoText) (.ref c_DayError) = some true)
    (xsub_NoText_NoPlan : PySem.W.subIn K (.ref c_NoText) (.ref c_NoPlan) = some false)
    (xsub_NoText_NoRow : PySem.W.subIn K (.ref c_NoText) (.ref c_NoRow) = some false)
    (xsub_NoText_NoFact : PySem.W.subIn K (.ref c_NoText) (.ref c_NoFact) = some false)
    (xsub_NoText_NoThing : PySem.W.subIn K (.ref c_NoText) (.ref c_NoThing) = some false)
    (xsub_NoText_Twice : PySem.W.subIn K (.ref c_NoText) (.ref c_Twice) = some false)
    (xsub_NoText_NoGroup : PySem.W.subIn K (.ref c_NoText) (.ref c_NoGroup) = some false)
    (xsub_NoText_NoMeasure : PySem.W.subIn K (.ref c_NoText) (.ref c_NoMeasure) = some false)
    (xsub_NoText_NoWatch : PySem.W.subIn K (.ref c_NoText) (.ref c_NoWatch) = some false)
    (xsub_NoText_NoTime : PySem.W.subIn K (.ref c_NoText) (.ref c_NoTime) = some false)
    (xsub_NoText_NoText : PySem.W.subIn K (.ref c_NoText) (.ref c_NoText) = some true)
    (xsub_NoText_NoDeskRow : PySem.W.subIn K (.ref c_NoText) (.ref c_NoDeskRow) = some false)
    (xsubVE_NoText : PySem.W.subIn K (.ref c_NoText) (.type "ValueError") = some true)
    (z_ValueError : PySem.W.nsIn K mainGlobals "ValueError" = some none)
    (z_all : PySem.W.nsIn K mainGlobals "all" = some none)
    (z_int : PySem.W.nsIn K mainGlobals "int" = some none)
    (z_isinstance : PySem.W.nsIn K mainGlobals "isinstance" = some none)
    (z_len : PySem.W.nsIn K mainGlobals "len" = some none)
    (z_list : PySem.W.nsIn K mainGlobals "list" = some none)
    (z_max : PySem.W.nsIn K mainGlobals "max" = some none)
    (z_range : PySem.W.nsIn K mainGlobals "range" = some none)
    (z_set : PySem.W.nsIn K mainGlobals "set" = some none)
    (z_tuple : PySem.W.nsIn K mainGlobals "tuple" = some none)
    (g_LETTERS : PySem.W.nsIn K mainGlobals "LETTERS" = some (some (.str "abcdefghijklmnopqrstuvwxyz" t_LETTERS)))
    (g_MOST_ATTRIBUTES : PySem.W.nsIn K mainGlobals "MOST_ATTRIBUTES" = some (some (.int 5 t_MOST_ATTRIBUTES)))
    (g_MOST_DIMENSIONS : PySem.W.nsIn K mainGlobals "MOST_DIMENSIONS" = some (some (.int 4 t_MOST_DIMENSIONS)))
    (g_MOST_LETTERS : PySem.W.nsIn K mainGlobals "MOST_LETTERS" = some (some (.int 8 t_MOST_LETTERS)))
    (g_MOST_MEASURES : PySem.W.nsIn K mainGlobals "MOST_MEASURES" = some (some (.int 4 t_MOST_MEASURES)))
    (k_Plan : PySem.W.nsIn K mainGlobals "Plan" = some (some (.ref c_Plan)))
    (pg_Plan : PySem.W.plainGet K c_Plan Str.empty = true)
    (hd_Plan : PySem.W.hasDictIn K c_Plan = true)
    (po_Plan : PySem.W.plainOver K c_Plan = true)
    (sa_Plan : PySem.W.findIn K (.ref c_Plan) "__setattr__" = some (some (.builtin "object.__setattr__")))
    (mk_Plan : PySem.W.makesIn K c_Plan = true)
    (kc_Plan : PySem.W.keepIn K (.ref c_Plan) = true)
    (nD : PySem.W.findIn K (.ref c_Plan) "dimensions_kept" = some none)
    (nM : PySem.W.findIn K (.ref c_Plan) "measures_kept" = some none)
    (k_WAYS : PySem.W.nsIn K mainGlobals "WAYS" = some (some (.ref T_WAYS)))
    (lo_WAYS : K.lookup T_WAYS = some ⟨.type "tuple", dW, .seq [Value.str "first" w1, .str "last" w2, .str "day" w3, .str "before" w4].toArray nW, lW⟩)
    (a_is_name : PySem.W.nsIn K mainGlobals "is_name" = some (some (.ref f_is_name)))
    (l_is_name : K.lookup f_is_name = some ⟨oc_is_name, od_is_name, .func (PySem.W.fnOf "is_name" "is_name" (defArgs s_is_name) (defBody s_is_name) (defScope s_is_name) .none kV_is_name dc_is_name pm_is_name an_is_name cd_is_name ct_is_name), sl_is_name⟩)
    (q_is_name : PySem.W.codeIn K cd_is_name "is_name" = true)
    (kp_is_name : PySem.W.keepIn K (.ref f_is_name) = true)
    (a_are_unlike_names : PySem.W.nsIn K mainGlobals "are_unlike_names" = some (some (.ref f_are_unlike_names)))
    (l_are_unlike_names : K.lookup f_are_unlike_names = some ⟨oc_are_unlike_names, od_are_unlike_names, .func (PySem.W.fnOf "are_unlike_names" "are_unlike_names" (defArgs s_are_unlike_names) (defBody s_are_unlike_names) (defScope s_are_unlike_names) .none kV_are_unlike_names dc_are_unlike_names pm_are_unlike_names an_are_unlike_names cd_are_unlike_names ct_are_unlike_names), sl_are_unlike_names⟩)
    (q_are_unlike_names : PySem.W.codeIn K cd_are_unlike_names "are_unlike_names" = true)
    (kp_are_unlike_names : PySem.W.keepIn K (.ref f_are_unlike_names) = true)
    (a_DayError___init__ : PySem.W.findIn K (.ref c_DayError) "__init__" = some (some (.ref f_DayError___init__)))
    (i_DayError___init__ : PySem.W.isFn K (.ref f_DayError___init__) = true)
    (l_DayError___init__ : K.lookup f_DayError___init__ = some ⟨oc_DayError___init__, od_DayError___init__, .func (PySem.W.fnOf "__init__" "DayError.__init__" (defArgs s_DayError___init__) (defBody s_DayError___init__) (defScope s_DayError___init__) .none kV_DayError___init__ dc_DayError___init__ pm_DayError___init__ an_DayError___init__ cd_DayError___init__ ct_DayError___init__), sl_DayError___init__⟩)
    (q_DayError___init__ : PySem.W.codeIn K cd_DayError___init__ "DayError.__init__" = true)
    (kp_DayError___init__ : PySem.W.keepIn K (.ref f_DayError___init__) = true)
    (ty_DayError___init__ : PySem.W.typeIn K (.ref f_DayError___init__) = some (.type "function"))
    (a_Plan___init__ : PySem.W.findIn K (.ref c_Plan) "__init__" = some (some (.ref f_Plan___init__)))
    (i_Plan___init__ : PySem.W.isFn K (.ref f_Plan___init__) = true)
    (l_Plan___init__ : K.lookup f_Plan___init__ = some ⟨oc_Plan___init__, od_Plan___init__, .func (PySem.W.fnOf "__init__" "Plan.__init__" (defArgs s_Plan___init__) (defBody s_Plan___init__) (defScope s_Plan___init__) (.ref T_Plan___init__) kV_Plan___init__ dc_Plan___init__ pm_Plan___init__ an_Plan___init__ cd_Plan___init__ ct_Plan___init__), sl_Plan___init__⟩)
    (q_Plan___init__ : PySem.W.codeIn K cd_Plan___init__ "Plan.__init__" = true)
    (kp_Plan___init__ : PySem.W.keepIn K (.ref f_Plan___init__) = true)
    (lt_Plan___init__ : K.lookup T_Plan___init__ = some ⟨oT_Plan___init__, dT_Plan___init__, .seq [Value.ref E_Plan___init__].toArray nT_Plan___init__, lT_Plan___init__⟩)
    (a_Plan_dimensions : PySem.W.findIn K (.ref c_Plan) "dimensions" = some (some (.ref f_Plan_dimensions)))
    (i_Plan_dimensions : PySem.W.isFn K (.ref f_Plan_dimensions) = true)
    (l_Plan_dimensions : K.lookup f_Plan_dimensions = some ⟨oc_Plan_dimensions, od_Plan_dimensions, .func (PySem.W.fnOf "dimensions" "Plan.dimensions" (defArgs s_Plan_dimensions) (defBody s_Plan_dimensions) (defScope s_Plan_dimensions) .none kV_Plan_dimensions dc_Plan_dimensions pm_Plan_dimensions an_Plan_dimensions cd_Plan_dimensions ct_Plan_dimensions), sl_Plan_dimensions⟩)
    (q_Plan_dimensions : PySem.W.codeIn K cd_Plan_dimensions "Plan.dimensions" = true)
    (kp_Plan_dimensions : PySem.W.keepIn K (.ref f_Plan_dimensions) = true)
    (a_Plan_measures : PySem.W.findIn K (.ref c_Plan) "measures" = some (some (.ref f_Plan_measures)))
    (i_Plan_measures : PySem.W.isFn K (.ref f_Plan_measures) = true)
    (l_Plan_measures : K.lookup f_Plan_measures = some ⟨oc_Plan_measures, od_Plan_measures, .func (PySem.W.fnOf "measures" "Plan.measures" (defArgs s_Plan_measures) (defBody s_Plan_measures) (defScope s_Plan_measures) .none kV_Plan_measures dc_Plan_measures pm_Plan_measures an_Plan_measures cd_Plan_measures ct_Plan_measures), sl_Plan_measures⟩)
    (q_Plan_measures : PySem.W.codeIn K cd_Plan_measures "Plan.measures" = true)
    (kp_Plan_measures : PySem.W.keepIn K (.ref f_Plan_measures) = true)
    (a_Plan___eq__ : PySem.W.findIn K (.ref c_Plan) "__eq__" = some (some (.ref f_Plan___eq__)))
    (i_Plan___eq__ : PySem.W.isFn K (.ref f_Plan___eq__) = true)
    (l_Plan___eq__ : K.lookup f_Plan___eq__ = some ⟨oc_Plan___eq__, od_Plan___eq__, .func (PySem.W.fnOf "__eq__" "Plan.__eq__" (defArgs s_Plan___eq__) (defBody s_Plan___eq__) (defScope s_Plan___eq__) .none kV_Plan___eq__ dc_Plan___eq__ pm_Plan___eq__ an_Plan___eq__ cd_Plan___eq__ ct_Plan___eq__), sl_Plan___eq__⟩)
    (q_Plan___eq__ : PySem.W.codeIn K cd_Plan___eq__ "Plan.__eq__" = true)
    (kp_Plan___eq__ : PySem.W.keepIn K (.ref f_Plan___eq__) = true)
    (en_Plan : PySem.W.findIn K (.ref c_Plan) "__ne__" = some (some (.builtin "object.__ne__")))
    (eo_Plan : PySem.W.mroIn K c_Plan (.type "object") = some true)
    (a__law_tray : PySem.W.nsIn K mainGlobals "_law_tray" = some (some (.ref f__law_tray)))
    (l__law_tray : K.lookup f__law_tray = some ⟨oc__law_tray, od__law_tray, .func (PySem.W.fnOf "_law_tray" "_law_tray" (defArgs s__law_tray) (defBody s__law_tray) (defScope s__law_tray) .none kV__law_tray dc__law_tray pm__law_tray an__law_tray cd__law_tray ct__law_tray), sl__law_tray⟩)
    (q__law_tray : PySem.W.codeIn K cd__law_tray "_law_tray" = true)
    (kp__law_tray : PySem.W.keepIn K (.ref f__law_tray) = true)
    (a__law_draw : PySem.W.nsIn K mainGlobals "_law_draw" = some (some (.ref f__law_draw)))
    (l__law_draw : K.lookup f__law_draw = some ⟨oc__law_draw, od__law_draw, .func (PySem.W.fnOf "_law_draw" "_law_draw" (defArgs s__law_draw) (defBody s__law_draw) (defScope s__law_draw) .none kV__law_draw dc__law_draw pm__law_draw an__law_draw cd__law_draw ct__law_draw), sl__law_draw⟩)
    (q__law_draw : PySem.W.codeIn K cd__law_draw "_law_draw" = true)
    (kp__law_draw : PySem.W.keepIn K (.ref f__law_draw) = true)
    (a__law_name : PySem.W.nsIn K mainGlobals "_law_name" = some (some (.ref f__law_name)))
    (l__law_name : K.lookup f__law_name = some ⟨oc__law_name, od__law_name, .func (PySem.W.fnOf "_law_name" "_law_name" (defArgs s__law_name) (defBody s__law_name) (defScope s__law_name) .none kV__law_name dc__law_name pm__law_name an__law_name cd__law_name ct__law_name), sl__law_name⟩)
    (q__law_name : PySem.W.codeIn K cd__law_name "_law_name" = true)
    (kp__law_name : PySem.W.keepIn K (.ref f__law_name) = true)
    (a__law_names : PySem.W.nsIn K mainGlobals "_law_names" = some (some (.ref f__law_names)))
    (l__law_names : K.lookup f__law_names = some ⟨oc__law_names, od__law_names, .func (PySem.W.fnOf "_law_names" "_law_names" (defArgs s__law_names) (defBody s__law_names) (defScope s__law_names) .none kV__law_names dc__law_names pm__law_names an__law_names cd__law_names ct__law_names), sl__law_names⟩)
    (q__law_names : PySem.W.codeIn K cd__law_names "_law_names" = true)
    (kp__law_names : PySem.W.keepIn K (.ref f__law_names) = true)
    (a__law_lists : PySem.W.nsIn K mainGlobals "_law_lists" = some (some (.ref f__law_lists)))
    (l__law_lists : K.lookup f__law_lists = some ⟨oc__law_lists, od__law_lists, .func (PySem.W.fnOf "_law_lists" "_law_lists" (defArgs s__law_lists) (defBody s__law_lists) (defScope s__law_lists) .none kV__law_lists dc__law_lists pm__law_lists an__law_lists cd__law_lists ct__law_lists), sl__law_lists⟩)
    (q__law_lists : PySem.W.codeIn K cd__law_lists "_law_lists" = true)
    (kp__law_lists : PySem.W.keepIn K (.ref f__law_lists) = true)
    (a_dimension_in : PySem.W.nsIn K mainGlobals "dimension_in" = some (some (.ref f_dimension_in)))
    (l_dimension_in : K.lookup f_dimension_in = some ⟨oc_dimension_in, od_dimension_in, .func (PySem.W.fnOf "dimension_in" "dimension_in" (defArgs s_dimension_in) (defBody s_dimension_in) (defScope s_dimension_in) .none kV_dimension_in dc_dimension_in pm_dimension_in an_dimension_in cd_dimension_in ct_dimension_in), sl_dimension_in⟩)
    (q_dimension_in : PySem.W.codeIn K cd_dimension_in "dimension_in" = true)
    (kp_dimension_in : PySem.W.keepIn K (.ref f_dimension_in) = true)
    (a__law_plan_shown : PySem.W.nsIn K mainGlobals "_law_plan_shown" = some (some (.ref f__law_plan_shown)))
    (l__law_plan_shown : K.lookup f__law_plan_shown = some ⟨oc__law_plan_shown, od__law_plan_shown, .func (PySem.W.fnOf "_law_plan_shown" "_law_plan_shown" (defArgs s__law_plan_shown) (defBody s__law_plan_shown) (defScope s__law_plan_shown) .none kV__law_plan_shown dc__law_plan_shown pm__law_plan_shown an__law_plan_shown cd__law_plan_shown ct__law_plan_shown), sl__law_plan_shown⟩)
    (q__law_plan_shown : PySem.W.codeIn K cd__law_plan_shown "_law_plan_shown" = true)
    (kp__law_plan_shown : PySem.W.keepIn K (.ref f__law_plan_shown) = true)
    (a_read_plan : PySem.W.nsIn K mainGlobals "read_plan" = some (some (.ref f_read_plan)))
    (l_read_plan : K.lookup f_read_plan = some ⟨oc_read_plan, od_read_plan, .func (PySem.W.fnOf "read_plan" "read_plan" (defArgs s_read_plan) (defBody s_read_plan) (defScope s_read_plan) .none kV_read_plan dc_read_plan pm_read_plan an_read_plan cd_read_plan ct_read_plan), sl_read_plan⟩)
    (q_read_plan : PySem.W.codeIn K cd_read_plan "read_plan" = true)
    (kp_read_plan : PySem.W.keepIn K (.ref f_read_plan) = true)
    (a__law_sign : PySem.W.nsIn K mainGlobals "_law_sign" = some (some (.ref f__law_sign)))
    (l__law_sign : K.lookup f__law_sign = some ⟨oc__law_sign, od__law_sign, .func (PySem.W.fnOf "_law_sign" "_law_sign" (defArgs s__law_sign) (defBody s__law_sign) (defScope s__law_sign) .none kV__law_sign dc__law_sign pm__law_sign an__law_sign cd__law_sign ct__law_sign), sl__law_sign⟩)
    (q__law_sign : PySem.W.codeIn K cd__law_sign "_law_sign" = true)
    (kp__law_sign : PySem.W.keepIn K (.ref f__law_sign) = true)
    (a__law_sign_spoilt : PySem.W.nsIn K mainGlobals "_law_sign_spoilt" = some (some (.ref f__law_sign_spoilt)))
    (l__law_sign_spoilt : K.lookup f__law_sign_spoilt = some ⟨oc__law_sign_spoilt, od__law_sign_spoilt, .func (PySem.W.fnOf "_law_sign_spoilt" "_law_sign_spoilt" (defArgs s__law_sign_spoilt) (defBody s__law_sign_spoilt) (defScope s__law_sign_spoilt) .none kV__law_sign_spoilt dc__law_sign_spoilt pm__law_sign_spoilt an__law_sign_spoilt cd__law_sign_spoilt ct__law_sign_spoilt), sl__law_sign_spoilt⟩)
    (q__law_sign_spoilt : PySem.W.codeIn K cd__law_sign_spoilt "_law_sign_spoilt" = true)
    (kp__law_sign_spoilt : PySem.W.keepIn K (.ref f__law_sign_spoilt) = true)
    (a__law_joint_spoilt : PySem.W.nsIn K mainGlobals "_law_joint_spoilt" = some (some (.ref f__law_joint_spoilt)))
    (l__law_joint_spoilt : K.lookup f__law_joint_spoilt = some ⟨oc__law_joint_spoilt, od__law_joint_spoilt, .func (PySem.W.fnOf "_law_joint_spoilt" "_law_joint_spoilt" (defArgs s__law_joint_spoilt) (defBody s__law_joint_spoilt) (defScope s__law_joint_spoilt) .none kV__law_joint_spoilt dc__law_joint_spoilt pm__law_joint_spoilt an__law_joint_spoilt cd__law_joint_spoilt ct__law_joint_spoilt), sl__law_joint_spoilt⟩)
    (q__law_joint_spoilt : PySem.W.codeIn K cd__law_joint_spoilt "_law_joint_spoilt" = true)
    (kp__law_joint_spoilt : PySem.W.keepIn K (.ref f__law_joint_spoilt) = true)
    (a__law_words_spoilt : PySem.W.nsIn K mainGlobals "_law_words_spoilt" = some (some (.ref f__law_words_spoilt)))
    (l__law_words_spoilt : K.lookup f__law_words_spoilt = some ⟨oc__law_words_spoilt, od__law_words_spoilt, .func (PySem.W.fnOf "_law_words_spoilt" "_law_words_spoilt" (defArgs s__law_words_spoilt) (defBody s__law_words_spoilt) (defScope s__law_words_spoilt) .none kV__law_words_spoilt dc__law_words_spoilt pm__law_words_spoilt an__law_words_spoilt cd__law_words_spoilt ct__law_words_spoilt), sl__law_words_spoilt⟩)
    (q__law_words_spoilt : PySem.W.codeIn K cd__law_words_spoilt "_law_words_spoilt" = true)
    (kp__law_words_spoilt : PySem.W.keepIn K (.ref f__law_words_spoilt) = true)
    (a__law_spoilt : PySem.W.nsIn K mainGlobals "_law_spoilt" = some (some (.ref f__law_spoilt)))
    (l__law_spoilt : K.lookup f__law_spoilt = some ⟨oc__law_spoilt, od__law_spoilt, .func (PySem.W.fnOf "_law_spoilt" "_law_spoilt" (defArgs s__law_spoilt) (defBody s__law_spoilt) (defScope s__law_spoilt) .none kV__law_spoilt dc__law_spoilt pm__law_spoilt an__law_spoilt cd__law_spoilt ct__law_spoilt), sl__law_spoilt⟩)
    (q__law_spoilt : PySem.W.codeIn K cd__law_spoilt "_law_spoilt" = true)
    (kp__law_spoilt : PySem.W.keepIn K (.ref f__law_spoilt) = true)
    (a__law_plan_of : PySem.W.nsIn K mainGlobals "_law_plan_of" = some (some (.ref f__law_plan_of)))
    (l__law_plan_of : K.lookup f__law_plan_of = some ⟨oc__law_plan_of, od__law_plan_of, .func (PySem.W.fnOf "_law_plan_of" "_law_plan_of" (defArgs s__law_plan_of) (defBody s__law_plan_of) (defScope s__law_plan_of) .none kV__law_plan_of dc__law_plan_of pm__law_plan_of an__law_plan_of cd__law_plan_of ct__law_plan_of), sl__law_plan_of⟩)
    (q__law_plan_of : PySem.W.codeIn K cd__law_plan_of "_law_plan_of" = true)
    (kp__law_plan_of : PySem.W.keepIn K (.ref f__law_plan_of) = true)
    (a__law_due : PySem.W.nsIn K mainGlobals "_law_due" = some (some (.ref f__law_due)))
    (l__law_due : K.lookup f__law_due = some ⟨oc__law_due, od__law_due, .func (PySem.W.fnOf "_law_due" "_law_due" (defArgs s__law_due) (defBody s__law_due) (defScope s__law_due) .none kV__law_due dc__law_due pm__law_due an__law_due cd__law_due ct__law_due), sl__law_due⟩)
    (q__law_due : PySem.W.codeIn K cd__law_due "_law_due" = true)
    (kp__law_due : PySem.W.keepIn K (.ref f__law_due) = true)
    (a_law : PySem.W.nsIn K mainGlobals "law" = some (some (.ref f_law)))
    (l_law : K.lookup f_law = some ⟨oc_law, od_law, .func (PySem.W.fnOf "law" "law" (defArgs s_law) (defBody s_law) (defScope s_law) .none kV_law dc_law pm_law an_law cd_law ct_law), sl_law⟩)
    (q_law : PySem.W.codeIn K cd_law "law" = true)
    (kp_law : PySem.W.keepIn K (.ref f_law) = true)
    : ∃ fd : FuncData, (∀ (s : Shared) (v : Value), BindsTo s fd ⟨[v], []⟩ [("script", v)]) ∧ ∀ base : Heap, K.In base → base.Ns mainGlobals mg → FnOkG l.prog w K mg base (L2N.CX l.prog w) 7 fa fd ["script"] (lift K sp_law) := by
  have e := hfa.symm.trans (PySem.W.mg_of X G a_law)
  cases e
  refine ⟨PySem.W.fnOf "law" "law" (defArgs s_law) (defBody s_law) (defScope s_law) .none kV_law dc_law pm_law an_law cd_law ct_law, fun s v => .of_eq rfl, fun base _ _ => ?_⟩
  have Z : Tx mg (caL [c_DayError, c_DayError, c_NoPlan, c_NoRow, c_NoFact, c_NoThing, c_Twice, c_NoGroup, c_NoMeasure, c_NoWatch, c_NoTime, c_NoText, c_NoDeskRow]) := ⟨PySem.W.mg_none_of X G z_ValueError, PySem.W.mg_none_of X G z_all, PySem.W.mg_none_of X G z_int, PySem.W.mg_none_of X G z_isinstance, PySem.W.mg_none_of X G z_len, PySem.W.mg_none_of X G z_list, PySem.W.mg_none_of X G z_max, PySem.W.mg_none_of X G z_range, PySem.W.mg_none_of X G z_set, PySem.W.mg_none_of X G z_tuple, ⟨_, PySem.W.mg_of X G g_LETTERS, ⟨t_LETTERS, rfl⟩⟩, ⟨_, PySem.W.mg_of X G g_MOST_ATTRIBUTES, ⟨t_MOST_ATTRIBUTES, rfl⟩⟩, ⟨_, PySem.W.mg_of X G g_MOST_DIMENSIONS, ⟨t_MOST_DIMENSIONS, rfl⟩⟩, ⟨_, PySem.W.mg_of X G g_MOST_LETTERS, ⟨t_MOST_LETTERS, rfl⟩⟩, ⟨_, PySem.W.mg_of X G g_MOST_MEASURES, ⟨t_MOST_MEASURES, rfl⟩⟩, PySem.W.mg_of X G k_DayError, PySem.W.mg_of X G k_NoDeskRow, PySem.W.mg_of X G k_NoFact, PySem.W.mg_of X G k_NoGroup, PySem.W.mg_of X G k_NoMeasure, PySem.W.mg_of X G k_NoPlan, PySem.W.mg_of X G k_NoRow, PySem.W.mg_of X G k_NoText, PySem.W.mg_of X G k_NoThing, PySem.W.mg_of X G k_NoTime, PySem.W.mg_of X G k_NoWatch, PySem.W.mg_of X G k_Twice⟩
  have XC_NoPlan : XC K c_NoPlan := ⟨⟨⟨nm_NoPlan, q_NoPlan, N_NoPlan, bs_NoPlan, bm_NoPlan, sn_NoPlan, sub_NoPlan, ab_NoPlan, col_NoPlan, dd_NoPlan, k0_NoPlan, k1_NoPlan, k2_NoPlan, k3_NoPlan, k5_NoPlan, xl_NoPlan, xr_NoPlan⟩, xs_NoPlan, bc_NoPlan, tc_NoPlan, xk_NoPlan⟩, xw_NoPlan, xg_NoPlan, xgg_NoPlan, xd_NoPlan, xa_NoPlan, xm_NoPlan, xh1, xh2, ic_NoPlan⟩
  have XC_NoText : XC K c_NoText := ⟨⟨⟨nm_NoText, q_NoText, N_NoText, bs_NoText, bm_NoText, sn_NoText, sub_NoText, ab_NoText, col_NoText, dd_NoText, k0_NoText, k1_NoText, k2_NoText, k3_NoText, k5_NoText, xl_NoText, xr_NoText⟩, xs_NoText, bc_NoText, tc_NoText, xk_NoText⟩, xw_NoText, xg_NoText, xgg_NoText, xd_NoText, xa_NoText, xm_NoText, xh1, xh2, ic_NoText⟩
  have CL_Plan : Cls K c_Plan := ⟨pg_Plan, hd_Plan, po_Plan, sa_Plan⟩
  have PT : PlanT K c_Plan := ⟨CL_Plan, nD, nM⟩
  have G_WAYS : GTup K mg "WAYS" ways4 := ⟨T_WAYS, _, _, _, PySem.W.mg_of X G k_WAYS, lo_WAYS, rfl, rfl, (show 4 ≤ sizeLine by decide), .cons ⟨_, rfl⟩ (.cons ⟨_, rfl⟩ (.cons ⟨_, rfl⟩ (.cons ⟨_, rfl⟩ .nil)))⟩
  have R : Er K (caL [c_DayError, c_DayError, c_NoPlan, c_NoRow, c_NoFact, c_NoThing, c_Twice, c_NoGroup, c_NoMeasure, c_NoWatch, c_NoTime, c_NoText, c_NoDeskRow]) := ⟨XC_NoText, e_exm bc_NoText ic_NoText tc_NoText xsub_NoText_NoText, e_kit ic_DayError tc_DayError xsub_NoText_DayError xsub_NoText_NoText, e_kitT (by decide +kernel) xsubVE_NoText, (e_anyF (e_kit ic_NoDeskRow tc_NoDeskRow xsub_NoText_NoDeskRow xsub_NoText_NoText) (e_anyF (e_kit ic_NoFact tc_NoFact xsub_NoText_NoFact xsub_NoText_NoText) (e_anyF (e_kit ic_NoGroup tc_NoGroup xsub_NoText_NoGroup xsub_NoText_NoText) (e_anyF (e_kit ic_NoMeasure tc_NoMeasure xsub_NoText_NoMeasure xsub_NoText_NoText) (e_anyF (e_kit ic_NoPlan tc_NoPlan xsub_NoText_NoPlan xsub_NoText_NoText) (e_anyF (e_kit ic_NoRow tc_NoRow xsub_NoText_NoRow xsub_NoText_NoText) (e_anyF (e_kit ic_NoThing tc_NoThing xsub_NoText_NoThing xsub_NoText_NoText) (e_anyF (e_kit ic_NoTime tc_NoTime xsub_NoText_NoTime xsub_NoText_NoText) (e_anyN))))))))), (e_anyF (e_kit ic_NoWatch tc_NoWatch xsub_NoText_NoWatch xsub_NoText_NoText) (e_anyF (e_kit ic_Twice tc_Twice xsub_NoText_Twice xsub_NoText_NoText) (e_anyN)))⟩
  have F_is_name := fun_mk (st := s_is_name) l_is_name q_is_name kp_is_name
  have b_is_name : Binds K _ ["text"] [] := bnd1 F_is_name fun _ _ _ _ _ _ _ => rfl
  have O_is_name := ok_is_name (P := l.prog) (w := w) (base := base) F_is_name Z
  have C_is_name : Cal l.prog w K mg base 1 "is_name" ["text"] (sp_is_name) := ⟨f_is_name, _, O_is_name, PySem.W.mg_of X G a_is_name, kp_is_name, b_is_name⟩
  have F_are_unlike_names := fun_mk (st := s_are_unlike_names) l_are_unlike_names q_are_unlike_names kp_are_unlike_names
  have O_are_unlike_names := ok_are_unlike_names (P := l.prog) (w := w) (base := base) F_are_unlike_names Z C_is_name
  have b_are_unlike_names : KBn K (PySem.W.fnOf "are_unlike_names" "are_unlike_names" (defArgs s_are_unlike_names) (defBody s_are_unlike_names) (defScope s_are_unlike_names) .none kV_are_unlike_names dc_are_unlike_names pm_are_unlike_names an_are_unlike_names cd_are_unlike_names ct_are_unlike_names) ["names", "most"] 1 ["most"] (fun us ws => us ++ ws) (fun vs zs => vs ++ zs) := ⟨fun _ us ws _ hu hw => match us, hu, ws, hw with | [u0], _, [v0], _ => .of_eq rfl, fun r q => kwB r q⟩
  have C_are_unlike_names : KCal l.prog w K mg base 2 "are_unlike_names" 1 ["most"] ["names", "most"] (sp_are_unlike_names) := ⟨f_are_unlike_names, _, O_are_unlike_names, PySem.W.mg_of X G a_are_unlike_names, kp_are_unlike_names, b_are_unlike_names⟩
  have F_DayError___init__ := fun_mk (st := s_DayError___init__) l_DayError___init__ q_DayError___init__ kp_DayError___init__
  have b_DayError___init__ : Binds K _ ["self", "what"] [] := bnd2 F_DayError___init__ fun _ _ _ _ _ _ _ _ => rfl
  have O_DayError___init__ : FnOk l.prog w K mg base (L2N.CX l.prog w) 1 f_DayError___init__ _ ["self", "what"] (spXI K) := ok_DayError_init F_DayError___init__
  have X_NoPlan : XCal l.prog w K mg base "NoPlan" c_NoPlan := ⟨PySem.W.mg_of X G k_NoPlan, XC_NoPlan, f_DayError___init__, _, xi_NoPlan, ty_DayError___init__, O_DayError___init__, b_DayError___init__⟩
  have X_NoText : XCal l.prog w K mg base "NoText" c_NoText := ⟨PySem.W.mg_of X G k_NoText, XC_NoText, f_DayError___init__, _, xi_NoText, ty_DayError___init__, O_DayError___init__, b_DayError___init__⟩
  have O_DayError___init__H := ok_DayError_initH (P := l.prog) (w := w) (mg := mg) (base := base) F_DayError___init__
  have XH_NoText : XCalH l.prog w K mg base "NoText" c_NoText := ⟨PySem.W.mg_of X G k_NoText, XC_NoText, f_DayError___init__, _, xi_NoText, ty_DayError___init__, O_DayError___init__H, b_DayError___init__⟩
  have F_Plan___init__ : FnD K "__init__" "Plan.__init__" s_Plan___init__ [.ref E_Plan___init__] f_Plan___init__ _ := ⟨⟨oc_Plan___init__, od_Plan___init__, _, kV_Plan___init__, dc_Plan___init__, pm_Plan___init__, an_Plan___init__, cd_Plan___init__, ct_Plan___init__, sl_Plan___init__, rfl, l_Plan___init__, q_Plan___init__, .inr ⟨by simp, T_Plan___init__, _, _, _, rfl, lt_Plan___init__, rfl, .cons rfl .nil⟩, .inl rfl⟩, kp_Plan___init__⟩
  obtain ⟨ds_Plan___init__, rd_Plan___init__, b_Plan___init__⟩ := F_Plan___init__.binds1 (ps := ["self", "dimensions", "measures"]) 3 1 (by simp) rfl fun _ _ _ _ _ _ _ us its hl hi => match us, hl, its, hi with | [_, _, _], _, [_], _ => ⟨_, rfl, rfl⟩
  cases rd_Plan___init__
  have O_Plan___init__ := ok_Plan_init (P := l.prog) (w := w) (base := base) F_Plan___init__ Z PT C_are_unlike_names X_NoPlan
  have I_Plan : ICal l.prog w K mg base 3 c_Plan "Plan" ["self", "dimensions", "measures"] (sp_Plan_init c_Plan ((caL [c_DayError, c_DayError, c_NoPlan, c_NoRow, c_NoFact, c_NoThing, c_Twice, c_NoGroup, c_NoMeasure, c_NoWatch, c_NoTime, c_NoText, c_NoDeskRow]) 2)) := ⟨PySem.W.mg_of X G k_Plan, f_Plan___init__, _, ⟨mk_Plan, a_Plan___init__, i_Plan___init__, kc_Plan⟩, O_Plan___init__, b_Plan___init__⟩
  have F_Plan_dimensions := fun_mk (st := s_Plan_dimensions) l_Plan_dimensions q_Plan_dimensions kp_Plan_dimensions
  have b_Plan_dimensions : Binds K _ ["self"] [] := bnd1 F_Plan_dimensions fun _ _ _ _ _ _ _ => rfl
  have O_Plan_dimensions := ok_Plan_dimensions (P := l.prog) (w := w) (base := base) F_Plan_dimensions Z PT
  have M_dimensions : MCal l.prog w K mg base 1 c_Plan "dimensions" ["self"] (sp_Plan_dimensions c_Plan) := ⟨CL_Plan, f_Plan_dimensions, _, ⟨a_Plan_dimensions, i_Plan_dimensions, kp_Plan_dimensions⟩, O_Plan_dimensions, b_Plan_dimensions⟩
  have F_Plan_measures := fun_mk (st := s_Plan_measures) l_Plan_measures q_Plan_measures kp_Plan_measures
  have b_Plan_measures : Binds K _ ["self"] [] := bnd1 F_Plan_measures fun _ _ _ _ _ _ _ => rfl
  have O_Plan_measures := ok_Plan_measures (P := l.prog) (w := w) (base := base) F_Plan_measures Z PT
  have M_measures : MCal l.prog w K mg base 1 c_Plan "measures" ["self"] (sp_Plan_measures c_Plan) := ⟨CL_Plan, f_Plan_measures, _, ⟨a_Plan_measures, i_Plan_measures, kp_Plan_measures⟩, O_Plan_measures, b_Plan_measures⟩
  have F_Plan___eq__ := fun_mk (st := s_Plan___eq__) l_Plan___eq__ q_Plan___eq__ kp_Plan___eq__
  have b_Plan___eq__ : Binds K _ ["self", "other"] [] := bnd2 F_Plan___eq__ fun _ _ _ _ _ _ _ _ => rfl
  have O_Plan___eq__ := ok_Plan_eq (P := l.prog) (w := w) (base := base) F_Plan___eq__ Z PT
  have E_Plan : EqCal l.prog w K mg base 1 c_Plan ["self", "other"] (sp_Plan_eq c_Plan) := ⟨⟨f_Plan___eq__, _, ⟨a_Plan___eq__, i_Plan___eq__, kp_Plan___eq__⟩, O_Plan___eq__, b_Plan___eq__⟩, en_Plan, eo_Plan⟩
  have F__law_tray := fun_mk (st := s__law_tray) l__law_tray q__law_tray kp__law_tray
  have b__law_tray : Binds K _ ["script"] [] := bnd1 F__law_tray fun _ _ _ _ _ _ _ => rfl
  have O__law_tray := ok__law_tray (P := l.prog) (w := w) (base := base) F__law_tray Z
  have C__law_tray : Cal l.prog w K mg base 1 "_law_tray" ["script"] (sp__law_tray) := ⟨f__law_tray, _, O__law_tray, PySem.W.mg_of X G a__law_tray, kp__law_tray, b__law_tray⟩
  have F__law_draw := fun_mk (st := s__law_draw) l__law_draw q__law_draw kp__law_draw
  have b__law_draw : Binds K _ ["tray", "many"] [] := bnd2 F__law_draw fun _ _ _ _ _ _ _ _ => rfl
  have O__law_draw := ok__law_draw (P := l.prog) (w := w) (base := base) F__law_draw Z
  have C__law_draw : Cal l.prog w K mg base 1 "_law_draw" ["tray", "many"] (sp__law_draw) := ⟨f__law_draw, _, O__law_draw, PySem.W.mg_of X G a__law_draw, kp__law_draw, b__law_draw⟩
  have F__law_name := fun_mk (st := s__law_name) l__law_name q__law_name kp__law_name
  have b__law_name : Binds K _ ["tray", "used"] [] := bnd2 F__law_name fun _ _ _ _ _ _ _ _ => rfl
  have O__law_name := ok__law_name (P := l.prog) (w := w) (base := base) F__law_name Z C__law_draw
  have C__law_name : Cal l.prog w K mg base 2 "_law_name" ["tray", "used"] (sp__law_name) := ⟨f__law_name, _, O__law_name, PySem.W.mg_of X G a__law_name, kp__law_name, b__law_name⟩
  have F__law_names := fun_mk (st := s__law_names) l__law_names q__law_names kp__law_names
  have b__law_names : Binds K _ ["tray", "many"] [] := bnd2 F__law_names fun _ _ _ _ _ _ _ _ => rfl
  have O__law_names := ok__law_names (P := l.prog) (w := w) (base := base) F__law_names Z C__law_name
  have C__law_names : Cal l.prog w K mg base 3 "_law_names" ["tray", "many"] (sp__law_names) := ⟨f__law_names, _, O__law_names, PySem.W.mg_of X G a__law_names, kp__law_names, b__law_names⟩
  have F__law_lists := fun_mk (st := s__law_lists) l__law_lists q__law_lists kp__law_lists
  have b__law_lists : Binds K _ ["tray", "most", "wide"] [] := bnd3 F__law_lists fun _ _ _ _ _ _ _ _ _ => rfl
  have O__law_lists := ok__law_lists (P := l.prog) (w := w) (base := base) F__law_lists Z C__law_draw C__law_names
  have C__law_lists : Cal l.prog w K mg base 4 "_law_lists" ["tray", "most", "wide"] (sp__law_lists) := ⟨f__law_lists, _, O__law_lists, PySem.W.mg_of X G a__law_lists, kp__law_lists, b__law_lists⟩
  have F_dimension_in := fun_mk (st := s_dimension_in) l_dimension_in q_dimension_in kp_dimension_in
  have b_dimension_in : Binds K _ ["words"] [] := bnd1 F_dimension_in fun _ _ _ _ _ _ _ => rfl
  have O_dimension_in := ok_dimension_in (P := l.prog) (w := w) (base := base) F_dimension_in Z G_WAYS C_is_name
  have C_dimension_in : Cal l.prog w K mg base 2 "dimension_in" ["words"] (sp_dimension_in) := ⟨f_dimension_in, _, O_dimension_in, PySem.W.mg_of X G a_dimension_in, kp_dimension_in, b_dimension_in⟩
  have F__law_plan_shown := fun_mk (st := s__law_plan_shown) l__law_plan_shown q__law_plan_shown kp__law_plan_shown
  have b__law_plan_shown : Binds K _ ["some", "sums"] [] := bnd2 F__law_plan_shown fun _ _ _ _ _ _ _ _ => rfl
  have O__law_plan_shown := ok__law_plan_shown (P := l.prog) (w := w) (base := base) F__law_plan_shown Z
  have C__law_plan_shown : Cal l.prog w K mg base 1 "_law_plan_shown" ["some", "sums"] (sp__law_plan_shown) := ⟨f__law_plan_shown, _, O__law_plan_shown, PySem.W.mg_of X G a__law_plan_shown, kp__law_plan_shown, b__law_plan_shown⟩
  have F_read_plan := fun_mk (st := s_read_plan) l_read_plan q_read_plan kp_read_plan
  have b_read_plan : Binds K _ ["text"] [] := bnd1 F_read_plan fun _ _ _ _ _ _ _ => rfl
  have O_read_plan := ok_read_plan (P := l.prog) (w := w) (base := base) F_read_plan Z (e_exm bc_NoPlan ic_NoPlan tc_NoPlan xsub_NoPlan_NoPlan) C_dimension_in I_Plan X_NoText XH_NoText
  have CF_read_plan : CalF l.prog w K mg base 5 "read_plan" ["text"] (sp_read_planF c_Plan c_NoText) := ⟨f_read_plan, _, O_read_plan, PySem.W.mg_of X G a_read_plan, kp_read_plan, b_read_plan⟩
  have C_read_plan : Cal l.prog w K mg base 5 "read_plan" ["text"] (sp_read_plan c_Plan) := ⟨f_read_plan, _, FnOkG.down O_read_plan read_plan_le, PySem.W.mg_of X G a_read_plan, kp_read_plan, b_read_plan⟩
  have F__law_sign := fun_mk (st := s__law_sign) l__law_sign q__law_sign kp__law_sign
  have b__law_sign : Binds K _ ["tray"] [] := bnd1 F__law_sign fun _ _ _ _ _ _ _ => rfl
  have O__law_sign := ok__law_sign (P := l.prog) (w := w) (base := base) F__law_sign Z C__law_draw
  have C__law_sign : Cal l.prog w K mg base 2 "_law_sign" ["tray"] (sp__law_sign) := ⟨f__law_sign, _, O__law_sign, PySem.W.mg_of X G a__law_sign, kp__law_sign, b__law_sign⟩
  have F__law_sign_spoilt := fun_mk (st := s__law_sign_spoilt) l__law_sign_spoilt q__law_sign_spoilt kp__law_sign_spoilt
  have b__law_sign_spoilt : Binds K _ ["tray", "text"] [] := bnd2 F__law_sign_spoilt fun _ _ _ _ _ _ _ _ => rfl
  have O__law_sign_spoilt := ok__law_sign_spoilt (P := l.prog) (w := w) (base := base) F__law_sign_spoilt Z C__law_draw C__law_sign
  have C__law_sign_spoilt : Cal l.prog w K mg base 3 "_law_sign_spoilt" ["tray", "text"] (sp__law_sign_spoilt) := ⟨f__law_sign_spoilt, _, O__law_sign_spoilt, PySem.W.mg_of X G a__law_sign_spoilt, kp__law_sign_spoilt, b__law_sign_spoilt⟩
  have F__law_joint_spoilt := fun_mk (st := s__law_joint_spoilt) l__law_joint_spoilt q__law_joint_spoilt kp__law_joint_spoilt
  have b__law_joint_spoilt : Binds K _ ["tray", "text"] [] := bnd2 F__law_joint_spoilt fun _ _ _ _ _ _ _ _ => rfl
  have O__law_joint_spoilt := ok__law_joint_spoilt (P := l.prog) (w := w) (base := base) F__law_joint_spoilt Z C__law_draw
  have C__law_joint_spoilt : Cal l.prog w K mg base 2 "_law_joint_spoilt" ["tray", "text"] (sp__law_joint_spoilt) := ⟨f__law_joint_spoilt, _, O__law_joint_spoilt, PySem.W.mg_of X G a__law_joint_spoilt, kp__law_joint_spoilt, b__law_joint_spoilt⟩
  have F__law_words_spoilt := fun_mk (st := s__law_words_spoilt) l__law_words_spoilt q__law_words_spoilt kp__law_words_spoilt
  have b__law_words_spoilt : Binds K _ ["tray", "text", "some"] [] := bnd3 F__law_words_spoilt fun _ _ _ _ _ _ _ _ _ => rfl
  have O__law_words_spoilt := ok__law_words_spoilt (P := l.prog) (w := w) (base := base) F__law_words_spoilt Z C__law_draw
  have C__law_words_spoilt : Cal l.prog w K mg base 2 "_law_words_spoilt" ["tray", "text", "some"] (sp__law_words_spoilt) := ⟨f__law_words_spoilt, _, O__law_words_spoilt, PySem.W.mg_of X G a__law_words_spoilt, kp__law_words_spoilt, b__law_words_spoilt⟩
  have F__law_spoilt := fun_mk (st := s__law_spoilt) l__law_spoilt q__law_spoilt kp__law_spoilt
  have b__law_spoilt : Binds K _ ["tray", "text", "some"] [] := bnd3 F__law_spoilt fun _ _ _ _ _ _ _ _ _ => rfl
  have O__law_spoilt := ok__law_spoilt (P := l.prog) (w := w) (base := base) F__law_spoilt Z C__law_draw C__law_sign_spoilt C__law_words_spoilt C__law_joint_spoilt
  have C__law_spoilt : Cal l.prog w K mg base 4 "_law_spoilt" ["tray", "text", "some"] (sp__law_spoilt) := ⟨f__law_spoilt, _, O__law_spoilt, PySem.W.mg_of X G a__law_spoilt, kp__law_spoilt, b__law_spoilt⟩
  have F__law_plan_of := fun_mk (st := s__law_plan_of) l__law_plan_of q__law_plan_of kp__law_plan_of
  have b__law_plan_of : Binds K _ ["text"] [] := bnd1 F__law_plan_of fun _ _ _ _ _ _ _ => rfl
  have O__law_plan_of := ok__law_plan_of (P := l.prog) (w := w) (base := base) F__law_plan_of Z
  have C__law_plan_of : Cal l.prog w K mg base 1 "_law_plan_of" ["text"] (sp__law_plan_of) := ⟨f__law_plan_of, _, O__law_plan_of, PySem.W.mg_of X G a__law_plan_of, kp__law_plan_of, b__law_plan_of⟩
  have F__law_due := fun_mk (st := s__law_due) l__law_due q__law_due kp__law_due
  have b__law_due : Binds K _ ["text"] [] := bnd1 F__law_due fun _ _ _ _ _ _ _ => rfl
  have O__law_due := ok__law_due41 (P := l.prog) (w := w) (base := base) F__law_due Z (e_exm bc_NoPlan ic_NoPlan tc_NoPlan xsub_NoPlan_NoPlan) C__law_plan_of I_Plan
  have C__law_due : Cal l.prog w K mg base 5 "_law_due" ["text"] (sp__law_due41 c_Plan) := ⟨f__law_due, _, O__law_due, PySem.W.mg_of X G a__law_due, kp__law_due, b__law_due⟩
  have F_law := fun_mk (st := s_law) l_law q_law kp_law
  have b_law : Binds K _ ["script"] [] := bnd1 F_law fun _ _ _ _ _ _ _ => rfl
  have O_law := ok_law (P := l.prog) (w := w) (base := base) F_law Z R C__law_tray C__law_draw C__law_lists C__law_plan_shown C__law_spoilt C__law_due CF_read_plan E_Plan
  exact O_law
theorem walk {l : PySem.W.OpenLaw} {q : Program} {loose : List Str} {XP : (Str → Option Value) → Heap → Prop} {YP : World → Heap → Prop} {d : DefRec} {K : Params → PySem.W.Frag} (hn : l.most = some 63) (hdf : d.params.defaults = [])
    (hY : ∀ (w : World) (h : Heap), YP w h → (K w.params).In h)
    (F : ∀ (w : World) (mg : Str → Option Value) (fa : Addr) (h : Heap), (K w.params).In h → h.Ns mainGlobals mg → mg d.name = some (.ref fa) →
      ∃ fd : FuncData, (∀ (s : Shared) (u : Value), BindsTo s fd ⟨[u], []⟩ [("script", u)]) ∧ ∀ base : Heap, (K w.params).In base → base.Ns mainGlobals mg → FnOkG l.prog w (K w.params) mg base (L2N.CX l.prog w) 7 fa fd ["script"] (lift (K w.params) sp_law)) :
    PySem.W.WalkO q loose XP YP l.row.toRowW d [] (fun f vs => PySem.call f vs) :=
  walkG (n := 63) (k := 7) (x := "script") (Cx0 := fun w => L2N.CX l.prog w) (sp := fun w => lift (K w.params) sp_law) hn (by decide) hdf ⟨rfl, by decide, by decide⟩ hY F
    (fun w H a ns hl _ hS => ⟨H, fun _ => none, [.d (.list (intsD ns))], fun s _ => s = .b true, fun _ _ _ => False, ⟨Same.refl H, fun p o h => by cases h⟩, .cons (.d (.lst hS (of_ints ns))) .nil, ⟨ns, rfl, hl, fun _ => rfl⟩,
      fun F' H' M' v s _ _ r p => by subst p; exact rep_bool r, fun _ _ _ _ _ _ _ _ _ z => z⟩)
    fun w H s e s' z => by obtain ⟨_, _, _, _, _, _, _, _, _, _, _, _, z⟩ := z; exact z
end K41
open PySem PySem.W PyProof.Rows
set_option maxRecDepth 100000 in
set_option maxHeartbeats 0 in
theorem PySem.Challenge.cw_kindsofday_k41_texts_of_no_plan_holds : PySem.Challenge.rw_kindsofday_k41_texts_of_no_plan.Holds := by
  w_on; o_law; k_head; (case hw => w_witness2)
  k_fill
  refine K41.walk (l := PySem.Challenge.rw_kindsofday_k41_texts_of_no_plan) rfl rfl (fun w h Y => PySem.W.kIn_of Y) ?F
  case F =>
    intro w mg fa h KX G hmg
    refine' K41.all_mk KX G hmg ?k_DayError ?ic_DayError ?tc_DayError ?bc_DayError ?k_NoPlan ?ic_NoPlan ?tc_NoPlan ?bc_NoPlan ?k_NoRow ?ic_NoRow ?tc_NoRow ?bc_NoRow ?k_NoFact ?ic_NoFact ?tc_NoFact ?bc_NoFact ?k_NoThing ?ic_NoThing ?tc_NoThing ?bc_NoThing ?k_Twice ?ic_Twice ?tc_Twice ?bc_Twice ?k_NoGroup ?ic_NoGroup ?tc_NoGroup ?bc_NoGroup ?k_NoMeasure ?ic_NoMeasure ?tc_NoMeasure ?bc_NoMeasure ?k_NoWatch ?ic_NoWatch ?tc_NoWatch ?bc_NoWatch ?k_NoTime ?ic_NoTime ?tc_NoTime ?bc_NoTime ?k_NoText ?ic_NoText ?tc_NoText ?bc_NoText ?k_NoDeskRow ?ic_NoDeskRow ?tc_NoDeskRow ?bc_NoDeskRow ?xh1 ?xh2 ?xl_NoPlan ?xr_NoPlan ?xs_NoPlan ?xk_NoPlan ?xw_NoPlan ?xg_NoPlan ?xgg_NoPlan ?xd_NoPlan ?xa_NoPlan ?xm_NoPlan ?xi_NoPlan ?xsub_NoPlan_DayError ?xsub_NoPlan_NoPlan ?xsub_NoPlan_NoRow ?xsub_NoPlan_NoFact ?xsub_NoPlan_NoThing ?xsub_NoPlan_Twice ?xsub_NoPlan_NoGroup ?xsub_NoPlan_NoMeasure ?xsub_NoPlan_NoWatch ?xsub_NoPlan_NoTime ?xsub_NoPlan_NoText ?xsub_NoPlan_NoDeskRow ?xsubVE_NoPlan ?xl_NoText ?xr_NoText ?xs_NoText ?xk_NoText ?xw_NoText ?xg_NoText ?xgg_NoText ?xd_NoText ?xa_NoText ?xm_NoText ?xi_NoText ?xsub_NoText_DayError ?xsub_NoText_NoPlan ?xsub_NoText_NoRow ?xsub_NoText_NoFact ?xsub_NoText_NoThing ?xsub_NoText_Twice ?xsub_NoText_NoGroup ?xsub_NoText_NoMeasure ?xsub_NoText_NoWatch ?xsub_NoText_NoTime ?xsub_NoText_NoText ?xsub_NoText_NoDeskRow ?xsubVE_NoText ?z_ValueError ?z_all ?z_int ?z_isinstance ?z_len ?z_list ?z_max ?z_range ?z_set ?z_tuple ?g_LETTERS ?g_MOST_ATTRIBUTES ?g_MOST_DIMENSIONS ?g_MOST_LETTERS ?g_MOST_MEASURES ?k_Plan ?pg_Plan ?hd_Plan ?po_Plan ?sa_Plan ?mk_Plan ?kc_Plan ?nD ?nM ?k_WAYS ?lo_WAYS ?a_is_name ?l_is_name ?q_is_name ?kp_is_name ?a_are_unlike_names ?l_are_unlike_names ?q_are_unlike_names ?kp_are_unlike_names ?a_DayError___init__ ?i_DayError___init__ ?l_DayError___init__ ?q_DayError___init__ ?kp_DayError___init__ ?ty_DayError___init__ ?a_Plan___init__ ?i_Plan___init__ ?l_Plan___init__ ?q_Plan___init__ ?kp_Plan___init__ ?lt_Plan___init__ ?a_Plan_dimensions ?i_Plan_dimensions ?l_Plan_dimensions ?q_Plan_dimensions ?kp_Plan_dimensions ?a_Plan_measures ?i_Plan_measures ?l_Plan_measures ?q_Plan_measures ?kp_Plan_measures ?a_Plan___eq__ ?i_Plan___eq__ ?l_Plan___eq__ ?q_Plan___eq__ ?kp_Plan___eq__ ?en_Plan ?eo_Plan ?a__law_tray ?l__law_tray ?q__law_tray ?kp__law_tray ?a__law_draw ?l__law_draw ?q__law_draw ?kp__law_draw ?a__law_name ?l__law_name ?q__law_name ?kp__law_name ?a__law_names ?l__law_names ?q__law_names ?kp__law_names ?a__law_lists ?l__law_lists ?q__law_lists ?kp__law_lists ?a_dimension_in ?l_dimension_in ?q_dimension_in ?kp_dimension_in ?a__law_plan_shown ?l__law_plan_shown ?q__law_plan_shown ?kp__law_plan_shown ?a_read_plan ?l_read_plan ?q_read_plan ?kp_read_plan ?a__law_sign ?l__law_sign ?q__law_sign ?kp__law_sign ?a__law_sign_spoilt ?l__law_sign_spoilt ?q__law_sign_spoilt ?kp__law_sign_spoilt ?a__law_joint_spoilt ?l__law_joint_spoilt ?q__law_joint_spoilt ?kp__law_joint_spoilt ?a__law_words_spoilt ?l__law_words_spoilt ?q__law_words_spoilt ?kp__law_words_spoilt ?a__law_spoilt ?l__law_spoilt ?q__law_spoilt ?kp__law_spoilt ?a__law_plan_of ?l__law_plan_of ?q__law_plan_of ?kp__law_plan_of ?a__law_due ?l__law_due ?q__law_due ?kp__law_due ?a_law ?l_law ?q_law ?kp_law
    (case k_DayError => k_is)
    (case ic_DayError => k_is)
    (case tc_DayError => k_is)
    (case bc_DayError => k_is)
    (case k_NoPlan => k_is)
    (case ic_NoPlan => k_is)
    (case tc_NoPlan => k_is)
    (case bc_NoPlan => k_is)
    (case k_NoRow => k_is)
    (case ic_NoRow => k_is)
    (case tc_NoRow => k_is)
    (case bc_NoRow => k_is)
    (case k_NoFact => k_is)
    (case ic_NoFact => k_is)
    (case tc_NoFact => k_is)
    (case bc_NoFact => k_is)
    (case k_NoThing => k_is)
    (case ic_NoThing => k_is)
    (case tc_NoThing => k_is)
    (case bc_NoThing => k_is)
    (case k_Twice => k_is)
    (case ic_Twice => k_is)
    (case tc_Twice => k_is)
    (case bc_Twice => k_is)
    (case k_NoGroup => k_is)
    (case ic_NoGroup => k_is)
    (case tc_NoGroup => k_is)
    (case bc_NoGroup => k_is)
    (case k_NoMeasure => k_is)
    (case ic_NoMeasure => k_is)
    (case tc_NoMeasure => k_is)
    (case bc_NoMeasure => k_is)
    (case k_NoWatch => k_is)
    (case ic_NoWatch => k_is)
    (case tc_NoWatch => k_is)
    (case bc_NoWatch => k_is)
    (case k_NoTime => k_is)
    (case ic_NoTime => k_is)
    (case tc_NoTime => k_is)
    (case bc_NoTime => k_is)
    (case k_NoText => k_is)
    (case ic_NoText => k_is)
    (case tc_NoText => k_is)
    (case bc_NoText => k_is)
    (case k_NoDeskRow => k_is)
    (case ic_NoDeskRow => k_is)
    (case tc_NoDeskRow => k_is)
    (case bc_NoDeskRow => k_is)
    (case xh1 => k_is)
    (case xh2 => k_is)
    (case xl_NoPlan => k_is)
    (case xr_NoPlan => decide +kernel)
    (case xs_NoPlan => k_is)
    (case xk_NoPlan => k_is)
    (case xw_NoPlan => k_is)
    (case xg_NoPlan => k_is)
    (case xgg_NoPlan => k_is)
    (case xd_NoPlan => k_is)
    (case xa_NoPlan => k_is)
    (case xm_NoPlan => k_is)
    (case xi_NoPlan => k_is)
    (case xsub_NoPlan_DayError => first | rfl | k_is)
    (case xsub_NoPlan_NoPlan => first | rfl | k_is)
    (case xsub_NoPlan_NoRow => first | rfl | k_is)
    (case xsub_NoPlan_NoFact => first | rfl | k_is)
    (case xsub_NoPlan_NoThing => first | rfl | k_is)
    (case xsub_NoPlan_Twice => first | rfl | k_is)
    (case xsub_NoPlan_NoGroup => first | rfl | k_is)
    (case xsub_NoPlan_NoMeasure => first | rfl | k_is)
    (case xsub_NoPlan_NoWatch => first | rfl | k_is)
    (case xsub_NoPlan_NoTime => first | rfl | k_is)
    (case xsub_NoPlan_NoText => first | rfl | k_is)
    (case xsub_NoPlan_NoDeskRow => first | rfl | k_is)
    (case xsubVE_NoPlan => first | rfl | k_is)
    (case xl_NoText => k_is)
    (case xr_NoText => decide +kernel)
    (case xs_NoText => k_is)
    (case xk_NoText => k_is)
    (case xw_NoText => k_is)
    (case xg_NoText => k_is)
    (case xgg_NoText => k_is)
    (case xd_NoText => k_is)
    (case xa_NoText => k_is)
    (case xm_NoText => k_is)
    (case xi_NoText => k_is)
    (case xsub_NoText_DayError => first | rfl | k_is)
    (case xsub_NoText_NoPlan => first | rfl | k_is)
    (case xsub_NoText_NoRow => first | rfl | k_is)
    (case xsub_NoText_NoFact => first | rfl | k_is)
    (case xsub_NoText_NoThing => first | rfl | k_is)
    (case xsub_NoText_Twice => first | rfl | k_is)
    (case xsub_NoText_NoGroup => first | rfl | k_is)
    (case xsub_NoText_NoMeasure => first | rfl | k_is)
    (case xsub_NoText_NoWatch => first | rfl | k_is)
    (case xsub_NoText_NoTime => first | rfl | k_is)
    (case xsub_NoText_NoText => first | rfl | k_is)
    (case xsub_NoText_NoDeskRow => first | rfl | k_is)
    (case xsubVE_NoText => first | rfl | k_is)
    (case z_ValueError => k_is)
    (case z_all => k_is)
    (case z_int => k_is)
    (case z_isinstance => k_is)
    (case z_len => k_is)
    (case z_list => k_is)
    (case z_max => k_is)
    (case z_range => k_is)
    (case z_set => k_is)
    (case z_tuple => k_is)
    (case g_LETTERS => k_is)
    (case g_MOST_ATTRIBUTES => k_is)
    (case g_MOST_DIMENSIONS => k_is)
    (case g_MOST_LETTERS => k_is)
    (case g_MOST_MEASURES => k_is)
    (case k_Plan => k_is)
    (case pg_Plan => k_is)
    (case hd_Plan => k_is)
    (case po_Plan => k_is)
    (case sa_Plan => k_is)
    (case mk_Plan => k_is)
    (case kc_Plan => k_is)
    (case nD => k_is)
    (case nM => k_is)
    (case k_WAYS => k_is)
    (case lo_WAYS => k_is)
    (case a_is_name => k_is)
    (case l_is_name => k_is)
    (case q_is_name => k_is)
    (case kp_is_name => k_is)
    (case a_are_unlike_names => k_is)
    (case l_are_unlike_names => k_is)
    (case q_are_unlike_names => k_is)
    (case kp_are_unlike_names => k_is)
    (case a_DayError___init__ => k_is)
    (case i_DayError___init__ => k_is)
    (case l_DayError___init__ => k_is)
    (case q_DayError___init__ => k_is)
    (case kp_DayError___init__ => k_is)
    (case ty_DayError___init__ => k_is)
    (case a_Plan___init__ => k_is)
    (case i_Plan___init__ => k_is)
    (case l_Plan___init__ => k_is)
    (case q_Plan___init__ => k_is)
    (case kp_Plan___init__ => k_is)
    (case lt_Plan___init__ => k_is)
    (case a_Plan_dimensions => k_is)
    (case i_Plan_dimensions => k_is)
    (case l_Plan_dimensions => k_is)
    (case q_Plan_dimensions => k_is)
    (case kp_Plan_dimensions => k_is)
    (case a_Plan_measures => k_is)
    (case i_Plan_measures => k_is)
    (case l_Plan_measures => k_is)
    (case q_Plan_measures => k_is)
    (case kp_Plan_measures => k_is)
    (case a_Plan___eq__ => k_is)
    (case i_Plan___eq__ => k_is)
    (case l_Plan___eq__ => k_is)
    (case q_Plan___eq__ => k_is)
    (case kp_Plan___eq__ => k_is)
    (case en_Plan => k_is)
    (case eo_Plan => k_is)
    (case a__law_tray => k_is)
    (case l__law_tray => k_is)
    (case q__law_tray => k_is)
    (case kp__law_tray => k_is)
    (case a__law_draw => k_is)
    (case l__law_draw => k_is)
    (case q__law_draw => k_is)
    (case kp__law_draw => k_is)
    (case a__law_name => k_is)
    (case l__law_name => k_is)
    (case q__law_name => k_is)
    (case kp__law_name => k_is)
    (case a__law_names => k_is)
    (case l__law_names => k_is)
    (case q__law_names => k_is)
    (case kp__law_names => k_is)
    (case a__law_lists => k_is)
    (case l__law_lists => k_is)
    (case q__law_lists => k_is)
    (case kp__law_lists => k_is)
    (case a_dimension_in => k_is)
    (case l_dimension_in => k_is)
    (case q_dimension_in => k_is)
    (case kp_dimension_in => k_is)
    (case a__law_plan_shown => k_is)
    (case l__law_plan_shown => k_is)
    (case q__law_plan_shown => k_is)
    (case kp__law_plan_shown => k_is)
    (case a_read_plan => k_is)
    (case l_read_plan => k_is)
    (case q_read_plan => k_is)
    (case kp_read_plan => k_is)
    (case a__law_sign => k_is)
    (case l__law_sign => k_is)
    (case q__law_sign => k_is)
    (case kp__law_sign => k_is)
    (case a__law_sign_spoilt => k_is)
    (case l__law_sign_spoilt => k_is)
    (case q__law_sign_spoilt => k_is)
    (case kp__law_sign_spoilt => k_is)
    (case a__law_joint_spoilt => k_is)
    (case l__law_joint_spoilt => k_is)
    (case q__law_joint_spoilt => k_is)
    (case kp__law_joint_spoilt => k_is)
    (case a__law_words_spoilt => k_is)
    (case l__law_words_spoilt => k_is)
    (case q__law_words_spoilt => k_is)
    (case kp__law_words_spoilt => k_is)
    (case a__law_spoilt => k_is)
    (case l__law_spoilt => k_is)
    (case q__law_spoilt => k_is)
    (case kp__law_spoilt => k_is)
    (case a__law_plan_of => k_is)
    (case l__law_plan_of => k_is)
    (case q__law_plan_of => k_is)
    (case kp__law_plan_of => k_is)
    (case a__law_due => k_is)
    (case l__law_due => k_is)
    (case q__law_due => k_is)
    (case kp__law_due => k_is)
    (case a_law => k_is)
    (case l_law => k_is)
    (case q_law => k_is)
    (case kp_law => k_is)
