import PyProof.Rows.All
import Wide.All
import OpenK.AllK
import Wide.FinOn
import HandS.ForMost
import HandS.ForExc
import HandS.Evl
import HandS.Lambda
import HandS.TupAny
import HandS.Wide
import HandS.IsInst
import HandS.Deep
import HandS.SortInts
import HandS.Conv
import HandS.Strs
import HandS.SetFor
import KE.KSortedM
import HandS.SortRule
import HandS.Sort
import HandS.HotCalls
import HandS.ExcIs
import HandS.EndTab
import KE.KNestM
import HandS.TupMul
import HandS.Iter
import KE.GoesMore
import KE.GoesEnum
import PyProof.Rows.Range3
import HandS.TupLe
import KE.DatumOrd
import KE.KIndexOf
import PySem.Challenge.RW_unlikelines_k21_errors_apart
set_option Elab.async false
set_option linter.all false
set_option maxRecDepth 100000
set_option maxHeartbeats 4000000
/-! DL: a logic of data over the hand layer: what code does to plain immutable data (PyData) and to lists that it owns. -/
namespace DL
open PySem L2
open Evl (Ex)
abbrev Sigma := List (Option V)

/-! ### data on the heap -/
mutual
inductive Dt (B : Hp) : V → PyData → Prop
  | non : Dt B .non .none
  | bl (b : Bool) : Dt B (.bl b) (.bool b)
  | int (i : Int) : Dt B (.int i) (.int i)
  | str (x : Str) : Dt B (.str x) (.str x)
  | lst {a : Addr} {xs : List V} {ds : List PyData} : B a = some (.lst xs) → DtAll B xs ds → Dt B (.ref a) (.list ds)
  | tup {a : Addr} {xs : List V} {ds : List PyData} : B a = some (.tup xs) → DtAll B xs ds → Dt B (.ref a) (.tuple ds)
inductive DtAll (B : Hp) : List V → List PyData → Prop
  | nil : DtAll B [] []
  | cons {v : V} {vs : List V} {d : PyData} {ds : List PyData} : Dt B v d → DtAll B vs ds → DtAll B (v :: vs) (d :: ds)
end

mutual
theorem Dt.mono {B B' : Hp} (e : Ex B B') : ∀ {v : V} {d : PyData}, Dt B v d → Dt B' v d
  | _, _, .non => .non
  | _, _, .bl b => .bl b
  | _, _, .int i => .int i
  | _, _, .str x => .str x
  | _, _, .lst h q => .lst (e _ _ h) (DtAll.mono e q)
  | _, _, .tup h q => .tup (e _ _ h) (DtAll.mono e q)
theorem DtAll.mono {B B' : Hp} (e : Ex B B') : ∀ {vs : List V} {ds : List PyData}, DtAll B vs ds → DtAll B' vs ds
  | _, _, .nil => .nil
  | _, _, .cons h q => .cons (Dt.mono e h) (DtAll.mono e q)
end
mutual
theorem Dt.dp {K : PySem.W.Frag} {B H : Hp} (e : Ex B H) : ∀ {v : V} {d : PyData}, Dt B v d → Dp K H v d
  | _, _, .non => .non
  | _, _, .bl b => .bl b
  | _, _, .int i => .int i
  | _, _, .str x => .str x
  | _, _, .lst h q => .lst (SqL.of (e _ _ h)) (DtAll.dp e q)
  | _, _, .tup h q => .tup (SqT.of (e _ _ h)) (DtAll.dp e q)
theorem DtAll.dp {K : PySem.W.Frag} {B H : Hp} (e : Ex B H) : ∀ {vs : List V} {ds : List PyData}, DtAll B vs ds → DpAll K H vs ds
  | _, _, .nil => .nil
  | _, _, .cons h q => .cons (Dt.dp e h) (DtAll.dp e q)
end
section
variable {B : Hp} {v : V}
theorem Dt.inv_non (h : Dt B v .none) : v = .non := by cases h; rfl
theorem Dt.inv_bl {b : Bool} (h : Dt B v (.bool b)) : v = .bl b := by cases h; rfl
theorem Dt.inv_int {i : Int} (h : Dt B v (.int i)) : v = .int i := by cases h; rfl
theorem Dt.inv_str {x : Str} (h : Dt B v (.str x)) : v = .str x := by cases h; rfl
theorem Dt.inv_lst {ds : List PyData} (h : Dt B v (.list ds)) : ∃ a xs, v = .ref a ∧ B a = some (.lst xs) ∧ DtAll B xs ds := by cases h with | lst h q => exact ⟨_, _, rfl, h, q⟩
theorem Dt.inv_tup {ds : List PyData} (h : Dt B v (.tuple ds)) : ∃ a xs, v = .ref a ∧ B a = some (.tup xs) ∧ DtAll B xs ds := by cases h with | tup h q => exact ⟨_, _, rfl, h, q⟩
theorem DtAll.length : ∀ {vs : List V} {ds : List PyData}, DtAll B vs ds → vs.length = ds.length
  | _, _, .nil => rfl
  | _, _, .cons _ q => congrArg Nat.succ (DtAll.length q)
theorem DtAll.get : ∀ {vs : List V} {ds : List PyData} {i : Nat} {d : PyData}, DtAll B vs ds → ds[i]? = some d → ∃ v, vs[i]? = some v ∧ Dt B v d
  | _, _, _, _, .nil, h => by simp at h
  | _, _, 0, _, .cons h _, e => ⟨_, rfl, by simp at e; subst e; exact h⟩
  | _, _, i + 1, d, .cons _ q, e => by
    obtain ⟨v, h1, h2⟩ := DtAll.get (i := i) (d := d) q (by simpa using e)
    exact ⟨v, by simpa using h1, h2⟩
theorem DtAll.getV : ∀ {vs : List V} {ds : List PyData} {i : Nat} {v : V}, DtAll B vs ds → vs[i]? = some v → ∃ d, ds[i]? = some d ∧ Dt B v d
  | _, _, _, _, .nil, h => by simp at h
  | _, _, 0, _, .cons h _, e => ⟨_, rfl, by simp at e; subst e; exact h⟩
  | _, _, i + 1, v, .cons _ q, e => by
    obtain ⟨d, h1, h2⟩ := DtAll.getV (i := i) (v := v) q (by simpa using e)
    exact ⟨d, by simpa using h1, h2⟩
theorem DtAll.append : ∀ {vs ws : List V} {ds es : List PyData}, DtAll B vs ds → DtAll B ws es → DtAll B (vs ++ ws) (ds ++ es)
  | _, _, _, _, .nil, q => q
  | _, _, _, _, .cons h t, q => .cons h (DtAll.append t q)
theorem DtAll.one {d : PyData} (h : Dt B v d) : DtAll B [v] [d] := .cons h .nil
theorem DtAll.drop : ∀ {vs : List V} {ds : List PyData} (n : Nat), DtAll B vs ds → DtAll B (vs.drop n) (ds.drop n)
  | _, _, 0, q => q
  | _, _, _ + 1, .nil => .nil
  | _, _, n + 1, .cons _ q => DtAll.drop n q
theorem DtAll.take : ∀ {vs : List V} {ds : List PyData} (n : Nat), DtAll B vs ds → DtAll B (vs.take n) (ds.take n)
  | _, _, 0, _ => .nil
  | _, _, _ + 1, .nil => .nil
  | _, _, n + 1, .cons h q => .cons h (DtAll.take n q)
theorem DtAll.ints : ∀ {ns : List Int} {vs : List V}, DtAll B vs (ns.map PyData.int) → vs = ns.map V.int
  | [], _, h => by cases h; rfl
  | n :: ns, _, h => by
    cases h with
    | cons h1 h2 =>
      have e := h1.inv_int
      subst e
      rw [DtAll.ints h2]
      rfl
theorem DtAll.bools : ∀ {ns : List Bool} {vs : List V}, DtAll B vs (ns.map PyData.bool) → vs = ns.map V.bl
  | [], _, h => by cases h; rfl
  | n :: ns, _, h => by
    cases h with
    | cons h1 h2 =>
      have e := h1.inv_bl
      subst e
      rw [DtAll.bools h2]
      rfl
theorem DtAll.of_ints : ∀ (ns : List Int), DtAll B (ns.map V.int) (ns.map PyData.int)
  | [] => .nil
  | n :: ns => .cons (.int n) (DtAll.of_ints ns)
theorem DtAll.of_bools : ∀ (ns : List Bool), DtAll B (ns.map V.bl) (ns.map PyData.bool)
  | [] => .nil
  | n :: ns => .cons (.bl n) (DtAll.of_bools ns)
end

/-! ### slots -/
/-- a knowledge of a name's value that stays where data grow -/
structure Kn where
  ok : Option V → Hp → Prop
  mono : ∀ {o : Option V} {B B' : Hp}, Ex B B' → ok o B → ok o B'
/-- it is this value -/
def kV (v : V) : Kn := ⟨fun o _ => o = some v, fun _ h => h⟩
/-- what is known of a name: nothing; a datum; a list that no datum holds; something that stays -/
inductive Sl where
  | no
  | dat (d : PyData)
  | own (qa : Option Addr) (ds : List PyData)
  | is (k : Kn)
  | obj (p C : Addr) (st : List (Str × PyData))
/-- an object's attributes hold data -/
def DtFs (B : Hp) (fs : List (Str × V)) (st : List (Str × PyData)) : Prop := fs.map (·.1) = st.map (·.1) ∧ DtAll B (fs.map (·.2)) (st.map (·.2))
theorem DtFs.mono {B B' : Hp} {fs : List (Str × V)} {st : List (Str × PyData)} (e : Ex B B') (h : DtFs B fs st) : DtFs B' fs st := ⟨h.1, h.2.mono e⟩
def SlOk (F B H : Hp) (o : Option V) : Sl → Prop
  | .no => True
  | .dat d => ∃ v, o = some v ∧ Dt B v d
  | .own qa ds => ∃ p xs, o = some (.ref p) ∧ B p = none ∧ F p = none ∧ H p = some (.lst xs) ∧ DtAll B xs ds ∧ ∀ a, qa = some a → p = a
  | .is k => k.ok o B
  | .obj p C st => o = some (.ref p) ∧ B p = none ∧ F p = none ∧ ∃ dx fs, H p = some (.ins C dx fs) ∧ DtFs B fs st
/-- F: what the callers hold; W: of it what data must not touch; B: the heap of the data; H: the heap -/
structure Env (T : List (Addr × Str)) (F : Hp) (W : Addr → Prop) (B H : Hp) (σ : Sigma) (ρ : List Sl) : Prop where
  fh : Ex F H
  bh : Ex B H
  wf : ∀ p, W p → F p ≠ none
  wb : ∀ p, W p → B p = none
  tb : LamX.Tabs T H
  ft : T ≠ [] → ∀ p ps, F p ≠ some (.tbl ps)
  bt : ∀ p ps, B p ≠ some (.tbl ps)
  ln : σ.length = ρ.length
  sl : ∀ (i : Nat) s, ρ[i]? = some s → ∃ o, σ[i]? = some o ∧ SlOk F B H o s
  ne : ∀ (i j : Nat) p q q' ds es, i ≠ j → ρ[i]? = some (.own q ds) → ρ[j]? = some (.own q' es) → σ[i]? = some (some (.ref p)) → σ[j]? ≠ some (some (.ref p))

/-- new objects alone: data B grows to B', nothing else that stood is touched -/
structure Grow (B H B' H' : Hp) : Prop where
  bb : Ex B B'
  bh : Ex B' H'
  hh : Ex H H'
  nb : ∀ p, B p = none → H p ≠ none → B' p = none
  bt : (∀ p ps, B p ≠ some (.tbl ps)) → ∀ p ps, B' p ≠ some (.tbl ps)
theorem Grow.refl {B H : Hp} (e : Ex B H) : Grow B H B H := ⟨Ex.refl _, e, Ex.refl _, fun _ h _ => h, fun h => h⟩
theorem Grow.trans {B H B1 H1 B2 H2 : Hp} (a : Grow B H B1 H1) (b : Grow B1 H1 B2 H2) : Grow B H B2 H2 :=
  ⟨a.bb.trans b.bb, b.bh, a.hh.trans b.hh, fun p h1 h2 => b.nb p (a.nb p h1 h2) (fun z => by
    cases e : H p with
    | none => exact h2 e
    | some o => rw [a.hh p o e] at z; cases z), fun h => b.bt (a.bt h)⟩
theorem Grow.new {B H : Hp} {p : Addr} {o : HO} (e : Ex B H) (hp : H p = none) (ho : ∀ ps, o ≠ .tbl ps) : Grow B H (upd B p o) (upd H p o) := by
  have bp : B p = none := Evl.fresh_back e hp
  refine ⟨Ex.new bp, fun a u h => ?_, Ex.new hp, fun q h1 h2 => ?_, fun h q ps => ?_⟩
  · by_cases hq : a = p
    · subst hq; rw [upd_same] at h ⊢; exact h
    · rw [upd_ne hq] at h ⊢; exact e a u h
  · rw [upd_ne (fun z => h2 (by rw [z]; exact hp))]; exact h1
  · by_cases hq : q = p
    · subst hq; rw [upd_same]; exact fun z => ho ps (Option.some.inj z)
    · rw [upd_ne hq]; exact h q ps
theorem Grow.junk {B H : Hp} {p : Addr} {o : HO} (e : Ex B H) (hp : H p = none) : Grow B H B (upd H p o) :=
  ⟨Ex.refl _, e.trans (Ex.new hp), Ex.new hp, fun _ h _ => h, fun h => h⟩
theorem Grow.ex {B H H' : Hp} (e : Ex B H) (h : Ex H H') : Grow B H B H' := ⟨Ex.refl _, e.trans h, h, fun _ h _ => h, fun h => h⟩

section
variable {T : List (Addr × Str)} {F : Hp} {W : Addr → Prop} {B H B' H' : Hp} {σ : Sigma} {ρ : List Sl}
theorem Env.grow (E : Env T F W B H σ ρ) (g : Grow B H B' H') : Env T F W B' H' σ ρ where
  fh := E.fh.trans g.hh
  bh := g.bh
  wf := E.wf
  wb := fun p hp => g.nb p (E.wb p hp) (fun z => by
    cases e : F p with
    | none => exact E.wf p hp e
    | some o => rw [E.fh p o e] at z; cases z)
  tb := E.tb.ext g.hh
  ft := E.ft
  bt := g.bt E.bt
  ln := E.ln
  sl := fun i s hs => by
    obtain ⟨o, h1, h2⟩ := E.sl i s hs
    refine ⟨o, h1, ?_⟩
    cases s with
    | no => trivial
    | dat d => obtain ⟨v, e, q⟩ := h2; exact ⟨v, e, q.mono g.bb⟩
    | is k => exact k.mono g.bb h2
    | obj p C st =>
      obtain ⟨e, e1, e2, dx, fs, e3, q⟩ := h2
      exact ⟨e, g.nb p e1 (by rw [e3]; exact fun z => by cases z), e2, dx, fs, g.hh _ _ e3, q.mono g.bb⟩
    | own qa ds =>
      obtain ⟨p, xs, e, e1, e2, e3, q, qq⟩ := h2
      exact ⟨p, xs, e, g.nb p e1 (by rw [e3]; exact fun z => by cases z), e2, g.hh _ _ e3, q.mono g.bb, qq⟩
  ne := E.ne
theorem Env.dat {i : Nat} {d : PyData} (E : Env T F W B H σ ρ) (h : ρ[i]? = some (.dat d)) : ∃ v, σ[i]? = some (some v) ∧ Dt B v d := by
  obtain ⟨o, h1, v, rfl, h2⟩ := E.sl i _ h
  exact ⟨v, h1, h2⟩
theorem Env.own {i : Nat} {qa : Option Addr} {ds : List PyData} (E : Env T F W B H σ ρ) (h : ρ[i]? = some (.own qa ds)) : ∃ p xs, σ[i]? = some (some (.ref p)) ∧ B p = none ∧ F p = none ∧ H p = some (.lst xs) ∧ DtAll B xs ds := by
  obtain ⟨o, h1, p, xs, rfl, a1, a2, a3, a4, _⟩ := E.sl i _ h
  exact ⟨p, xs, h1, a1, a2, a3, a4⟩
theorem Env.ownAt {i : Nat} {a : Addr} {ds : List PyData} (E : Env T F W B H σ ρ) (h : ρ[i]? = some (.own (some a) ds)) : σ[i]? = some (some (.ref a)) := by
  obtain ⟨o, h1, p, xs, rfl, _, _, _, _, q⟩ := E.sl i _ h
  rw [h1, q a rfl]
/-- an address that no own list has -/
def NotOwn (σ : Sigma) (ρ : List Sl) (p : Addr) : Prop := ∀ (i : Nat) qa ds, ρ[i]? = some (.own qa ds) → σ[i]? ≠ some (some (.ref p))
theorem Env.notOwn {p : Addr} (E : Env T F W B H σ ρ) (h : H p = none) : NotOwn σ ρ p := fun i qa ds hi hs => by
  obtain ⟨q, xs, e, _, _, e3, _⟩ := E.own hi
  rw [hs] at e
  cases e
  rw [h] at e3
  cases e3
/-- a datum is stored -/
theorem Env.set {i : Nat} {v : V} {d : PyData} (E : Env T F W B H σ ρ) (h : Dt B v d) : Env T F W B H (σ.set i (some v)) (ρ.set i (.dat d)) where
  fh := E.fh
  bh := E.bh
  wf := E.wf
  wb := E.wb
  tb := E.tb
  ft := E.ft
  bt := E.bt
  ln := by rw [List.length_set, List.length_set]; exact E.ln
  sl := fun j s hs => by
    by_cases hj : i = j
    · subst hj
      by_cases hl : i < ρ.length
      · rw [List.getElem?_set_self hl] at hs
        cases hs
        exact ⟨some v, List.getElem?_set_self (by rw [E.ln]; exact hl), v, rfl, h⟩
      · rw [List.getElem?_eq_none (by simpa using hl)] at hs; cases hs
    · rw [List.getElem?_set_ne hj] at hs ⊢
      exact E.sl j s hs
  ne := fun a b p q q' ds es hab ha hb => by
    have na : i ≠ a := fun z => by
      subst z
      by_cases hl : i < ρ.length
      · rw [List.getElem?_set_self hl] at ha; cases ha
      · rw [List.getElem?_eq_none (by simpa using hl)] at ha; cases ha
    have nb : i ≠ b := fun z => by
      subst z
      by_cases hl : i < ρ.length
      · rw [List.getElem?_set_self hl] at hb; cases hb
      · rw [List.getElem?_eq_none (by simpa using hl)] at hb; cases hb
    rw [List.getElem?_set_ne na] at ha
    rw [List.getElem?_set_ne nb] at hb
    rw [List.getElem?_set_ne na, List.getElem?_set_ne nb]
    exact E.ne a b p q q' ds es hab ha hb
/-- an own list is stored -/
theorem Env.setOwn {i : Nat} {p : Addr} {xs : List V} {ds : List PyData} (E : Env T F W B H σ ρ) (h1 : B p = none) (h2 : F p = none) (h3 : H p = some (.lst xs)) (h4 : DtAll B xs ds) (hn : NotOwn σ ρ p) : Env T F W B H (σ.set i (some (.ref p))) (ρ.set i (.own none ds)) where
  fh := E.fh
  bh := E.bh
  wf := E.wf
  wb := E.wb
  tb := E.tb
  ft := E.ft
  bt := E.bt
  ln := by rw [List.length_set, List.length_set]; exact E.ln
  sl := fun j s hs => by
    by_cases hj : i = j
    · subst hj
      by_cases hl : i < ρ.length
      · rw [List.getElem?_set_self hl] at hs
        cases hs
        exact ⟨some (.ref p), List.getElem?_set_self (by rw [E.ln]; exact hl), p, xs, rfl, h1, h2, h3, h4, fun a z => by cases z⟩
      · rw [List.getElem?_eq_none (by simpa using hl)] at hs; cases hs
    · rw [List.getElem?_set_ne hj] at hs ⊢
      exact E.sl j s hs
  ne := fun a b q qa qb ds' es hab ha hb => by
    by_cases ea : i = a
    · subst ea
      have nb : i ≠ b := hab
      rw [List.getElem?_set_ne nb] at hb
      rw [List.getElem?_set_ne nb]
      intro hs
      by_cases hl : i < σ.length
      · rw [List.getElem?_set_self hl] at hs
        cases hs
        exact hn b qb es hb
      · rw [List.getElem?_eq_none (by simpa using hl)] at hs; cases hs
    · rw [List.getElem?_set_ne ea] at ha ⊢
      by_cases eb : i = b
      · subst eb
        intro hs hs2
        by_cases hl : i < σ.length
        · rw [List.getElem?_set_self hl] at hs2
          cases hs2
          exact hn a qa ds' ha hs
        · rw [List.getElem?_eq_none (by simpa using hl)] at hs2; cases hs2
      · rw [List.getElem?_set_ne eb] at hb ⊢
        exact E.ne a b q qa qb ds' es hab ha hb
/-- less is known -/
def Weaker : List Sl → List Sl → Prop := fun ρ ρ' => ρ.length = ρ'.length ∧ ∀ (i : Nat) s, ρ'[i]? = some s → s = .no ∨ ρ[i]? = some s
theorem Env.weak {ρ' : List Sl} (E : Env T F W B H σ ρ) (w : Weaker ρ ρ') : Env T F W B H σ ρ' where
  fh := E.fh
  bh := E.bh
  wf := E.wf
  wb := E.wb
  tb := E.tb
  ft := E.ft
  bt := E.bt
  ln := E.ln.trans w.1
  sl := fun j s hs => by
    rcases w.2 j s hs with h | h
    · subst h
      have hl : j < σ.length := by rw [E.ln, w.1]; exact (List.getElem?_eq_some_iff.mp hs).1
      exact ⟨σ[j], List.getElem?_eq_getElem hl, trivial⟩
    · exact E.sl j s h
  ne := fun a b p q q' ds es hab ha hb => by
    rcases w.2 a _ ha with h | h
    · cases h
    · rcases w.2 b _ hb with h' | h'
      · cases h'
      · exact E.ne a b p q q' ds es hab h h'
/-- the own list becomes a datum -/
theorem Env.give {i : Nat} {qa : Option Addr} {ds : List PyData} (E : Env T F W B H σ ρ) (h : ρ[i]? = some (.own qa ds)) : ∃ B', Ex B B' ∧ Env T F W B' H σ (ρ.set i (.dat (.list ds))) := by
  obtain ⟨p, xs, e, hB, hF, hH, q⟩ := E.own h
  have hb : Ex B (upd B p (.lst xs)) := Ex.new hB
  have hil : i < ρ.length := (List.getElem?_eq_some_iff.mp h).1
  have nF : ∀ a, W a → a ≠ p := fun a ha z => E.wf a ha (by rw [z]; exact hF)
  refine ⟨upd B p (.lst xs), hb, ⟨E.fh, fun a o ha => ?_, E.wf, fun a ha => by rw [upd_ne (nF a ha)]; exact E.wb a ha, E.tb, E.ft, fun a ps => ?_, by rw [List.length_set]; exact E.ln, fun j s hs => ?_, fun a b r q1 q2 es fs hab ha hb' => ?_⟩⟩
  · by_cases z : a = p
    · subst z; rw [upd_same] at ha; rw [hH]; exact ha
    · rw [upd_ne z] at ha; exact E.bh a o ha
  · by_cases z : a = p
    · subst z; rw [upd_same]; exact fun z => by cases z
    · rw [upd_ne z]; exact E.bt a ps
  · by_cases hj : i = j
    · subst hj
      rw [List.getElem?_set_self hil] at hs
      cases hs
      exact ⟨_, e, _, rfl, .lst upd_same (q.mono hb)⟩
    · rw [List.getElem?_set_ne hj] at hs
      obtain ⟨o, h1, h2⟩ := E.sl j s hs
      refine ⟨o, h1, ?_⟩
      cases s with
      | no => trivial
      | dat d => obtain ⟨v, e', q'⟩ := h2; exact ⟨v, e', q'.mono hb⟩
      | is k => exact k.mono hb h2
      | obj r C st =>
        obtain ⟨e', e1, e2, dx, fs, e3, q'⟩ := h2
        exact ⟨e', by rw [upd_ne (ne_of e3 hH (fun z => by cases z))]; exact e1, e2, dx, fs, e3, q'.mono hb⟩
      | own qb es =>
        obtain ⟨r, ys, e', e1, e2, e3, q', qq⟩ := h2
        refine ⟨r, ys, e', ?_, e2, e3, q'.mono hb, qq⟩
        have nr : r ≠ p := fun z => by
          subst z
          rw [e'] at h1
          exact E.ne i j r qa qb ds es hj h hs e h1
        rw [upd_ne nr]; exact e1
  · have na : i ≠ a := fun z => by subst z; rw [List.getElem?_set_self hil] at ha; cases ha
    have nb : i ≠ b := fun z => by subst z; rw [List.getElem?_set_self hil] at hb'; cases hb'
    rw [List.getElem?_set_ne na] at ha
    rw [List.getElem?_set_ne nb] at hb'
    exact E.ne a b r q1 q2 es fs hab ha hb'
/-- the own list at p is written -/
theorem Env.write {i : Nat} {p : Addr} {qa : Option Addr} {ds es : List PyData} {ys : List V} (E : Env T F W B H σ ρ) (h : ρ[i]? = some (.own qa ds)) (hp : σ[i]? = some (some (.ref p))) (hy : DtAll B ys es) : Env T F W B (upd H p (.lst ys)) σ (ρ.set i (.own qa es)) := by
  obtain ⟨p', xs, e, hB, hF, hH, q⟩ := E.own h
  have hqa : ∀ a, qa = some a → p = a := fun a z => by
    subst z
    have := E.ownAt h
    rw [hp] at this
    cases this
    rfl
  rw [hp] at e
  cases e
  have hil : i < ρ.length := (List.getElem?_eq_some_iff.mp h).1
  refine ⟨fun a o ha => ?_, fun a o ha => ?_, E.wf, E.wb, fun t ht => ?_, E.ft, E.bt, by rw [List.length_set]; exact E.ln, fun j s hs => ?_, fun a b r q1 q2 fs gs hab ha hb' => ?_⟩
  · rw [upd_ne (ne_of_none ha hF)]; exact E.fh a o ha
  · rw [upd_ne (ne_of_none ha hB)]; exact E.bh a o ha
  · obtain ⟨ps, h1, h2, h3⟩ := E.tb t ht
    refine ⟨ps, ?_, h2, fun pos cv hc => ?_⟩
    · rw [upd_ne (ne_of h1 hH (fun z => by cases z))]; exact h1
    · obtain ⟨c, e1, e2⟩ := h3 pos cv hc
      refine ⟨c, e1, ?_⟩
      rw [upd_ne (ne_of e2 hH (fun z => by unfold LamX.CodeO at z; cases z))]; exact e2
  · by_cases hj : i = j
    · subst hj
      rw [List.getElem?_set_self hil] at hs
      cases hs
      exact ⟨_, hp, p, ys, rfl, hB, hF, upd_same, hy, hqa⟩
    · rw [List.getElem?_set_ne hj] at hs
      obtain ⟨o, h1, h2⟩ := E.sl j s hs
      refine ⟨o, h1, ?_⟩
      cases s with
      | no => trivial
      | dat d => exact h2
      | is k => exact h2
      | obj r C st =>
        obtain ⟨e', e1, e2, dx, fs, e3, q'⟩ := h2
        exact ⟨e', e1, e2, dx, fs, by rw [upd_ne (ne_of e3 hH (fun z => by cases z))]; exact e3, q'⟩
      | own qb es' =>
        obtain ⟨r, zs, e', e1, e2, e3, q', qq⟩ := h2
        refine ⟨r, zs, e', e1, e2, ?_, q', qq⟩
        have nr : r ≠ p := fun z => by
          subst z
          rw [e'] at h1
          exact E.ne i j r qa qb ds es' hj h hs hp h1
        rw [upd_ne nr]; exact e3
  · have key : ∀ (c : Nat) qc fs, (ρ.set i (.own qa es))[c]? = some (.own qc fs) → ∃ qd fs', ρ[c]? = some (.own qd fs') := fun c qc fs hc => by
      by_cases z : i = c
      · subst z; exact ⟨qa, ds, h⟩
      · rw [List.getElem?_set_ne z] at hc; exact ⟨qc, fs, hc⟩
    obtain ⟨g1, f1, k1⟩ := key a q1 fs ha
    obtain ⟨g2, f2, k2⟩ := key b q2 gs hb'
    exact E.ne a b r g1 g2 f1 f2 hab k1 k2
end
end DL
namespace DL
open PySem L2
open Evl (Ex)

/-! ### judgements -/
abbrev TL := List (Addr × Str)
/-- te, where the names hold ρ, gives d; the names hold ρ' then -/
def EE (T : TL) (te : TE) (ρ : List Sl) (d : PyData) (ρ' : List Sl) : Prop :=
  ∀ F W B H σ (Q : VK), Env T F W B H σ ρ → (∀ v B' H', Ex B B' → Env T F W B' H' σ ρ' → Dt B' v d → Q v H') → te σ H Q
def ET (T : TL) (tt : TT) (ρ : List Sl) (b : Bool) (ρ' : List Sl) : Prop :=
  ∀ F W B H σ (Q : Bool → Hp → Prop), Env T F W B H σ ρ → (∀ B' H', Ex B B' → Env T F W B' H' σ ρ' → Q b H') → tt σ H Q
def EA (T : TL) (ta : TA) (ρ : List Sl) (ds : List PyData) (ρ' : List Sl) : Prop :=
  ∀ F W B H σ (Q : List V → Hp → Prop), Env T F W B H σ ρ → (∀ vs B' H', Ex B B' → Env T F W B' H' σ ρ' → DtAll B' vs ds → Q vs H') → ta σ H Q
/-- a new list, not yet a datum -/
def EL (T : TL) (te : TE) (ρ : List Sl) (ds : List PyData) (ρ' : List Sl) : Prop :=
  ∀ F W B H σ (Q : VK), Env T F W B H σ ρ → (∀ p xs B' H', Ex B B' → Env T F W B' H' σ ρ' → B' p = none → F p = none → H' p = some (.lst xs) → DtAll B' xs ds → NotOwn σ ρ' p → Q (.ref p) H') → te σ H Q
def EO (T : TL) (to : TO) (ρ : List Sl) (o : Option Int) (ρ' : List Sl) : Prop :=
  ∀ F W B H σ (Q : Option Int → Hp → Prop), Env T F W B H σ ρ → (∀ B' H', Ex B B' → Env T F W B' H' σ ρ' → Q o H') → to σ H Q

/-- a list of no one's becomes a datum -/
theorem Env.take {T : TL} {F : Hp} {W : Addr → Prop} {B H : Hp} {σ : Sigma} {ρ : List Sl} {p : Addr} {xs : List V} {ds : List PyData} (E : Env T F W B H σ ρ) (h1 : B p = none) (h2 : F p = none) (h3 : H p = some (.lst xs)) (h4 : DtAll B xs ds) (hn : NotOwn σ ρ p) :
    ∃ B', Ex B B' ∧ Env T F W B' H σ ρ ∧ Dt B' (.ref p) (.list ds) := by
  have hb : Ex B (upd B p (.lst xs)) := Ex.new h1
  have nF : ∀ a, W a → a ≠ p := fun a ha z => E.wf a ha (by rw [z]; exact h2)
  refine ⟨upd B p (.lst xs), hb, ⟨E.fh, fun a o ha => ?_, E.wf, fun a ha => by rw [upd_ne (nF a ha)]; exact E.wb a ha, E.tb, E.ft, fun a ps => ?_, E.ln, fun j s hs => ?_, E.ne⟩, .lst upd_same (h4.mono hb)⟩
  · by_cases z : a = p
    · subst z; rw [upd_same] at ha; rw [h3]; exact ha
    · rw [upd_ne z] at ha; exact E.bh a o ha
  · by_cases z : a = p
    · subst z; rw [upd_same]; exact fun z => by cases z
    · rw [upd_ne z]; exact E.bt a ps
  · obtain ⟨o, e1, e2⟩ := E.sl j s hs
    refine ⟨o, e1, ?_⟩
    cases s with
    | no => trivial
    | dat d => obtain ⟨v, e', q'⟩ := e2; exact ⟨v, e', q'.mono hb⟩
    | is k => exact k.mono hb e2
    | obj r C st =>
      obtain ⟨e', k1, k2, dx, fs, k3, q'⟩ := e2
      exact ⟨e', by rw [upd_ne (ne_of k3 h3 (fun z => by cases z))]; exact k1, k2, dx, fs, k3, q'.mono hb⟩
    | own qb es =>
      obtain ⟨r, ys, e', k1, k2, k3, q', qq⟩ := e2
      subst e'
      refine ⟨r, ys, rfl, ?_, k2, k3, q'.mono hb, qq⟩
      have nr : r ≠ p := fun z => by subst z; exact hn j qb es hs e1
      rw [upd_ne nr]; exact k1

section
variable {T : TL} {te ta tb tc : TE} {tt tu : TT} {ρ ρ1 ρ2 ρ3 : List Sl} {d x y z : PyData} {ds es : List PyData}
theorem EL.ee (h : EL T te ρ ds ρ1) : EE T te ρ (.list ds) ρ1 := fun F W B H σ Q E k => h F W B H σ Q E fun p xs B' H' e E' h1 h2 h3 h4 h5 => by
  obtain ⟨B2, e2, E2, q⟩ := E'.take h1 h2 h3 h4 h5
  exact k _ B2 H' (e.trans e2) E2 q
theorem EE.is (h : EE T te ρ x ρ1) (e : x = y) : EE T te ρ y ρ1 := by rw [← e]; exact h
theorem EL.is (h : EL T te ρ ds ρ1) (e : ds = es) : EL T te ρ es ρ1 := by rw [← e]; exact h
theorem ET.is {b c : Bool} (h : ET T tt ρ b ρ1) (e : b = c) : ET T tt ρ c ρ1 := by rw [← e]; exact h
theorem ee_var {i : Nat} (h : ρ[i]? = some (.dat d)) : EE T (tVar i) ρ d ρ := fun F W B H σ Q E k => by
  obtain ⟨v, h1, h2⟩ := E.dat h
  exact ⟨v, h1, k v B H (Ex.refl _) E h2⟩
theorem ee_int {i : Int} : EE T (tC (.int i)) ρ (.int i) ρ := fun F W B H σ Q E k => k _ B H (Ex.refl _) E (.int i)
theorem ee_bl {i : Bool} : EE T (tC (.bl i)) ρ (.bool i) ρ := fun F W B H σ Q E k => k _ B H (Ex.refl _) E (.bl i)
theorem ee_str {i : Str} : EE T (tC (.str i)) ρ (.str i) ρ := fun F W B H σ Q E k => k _ B H (Ex.refl _) E (.str i)
theorem ee_non : EE T (tC .non) ρ .none ρ := fun F W B H σ Q E k => k _ B H (Ex.refl _) E .non
theorem ea_nil : EA T tNil ρ [] ρ := fun F W B H σ Q E k => k [] B H (Ex.refl _) E .nil
theorem ea_cons {tr : TA} (h : EE T te ρ d ρ1) (hr : EA T tr ρ1 ds ρ2) : EA T (tCons te tr) ρ (d :: ds) ρ2 := fun F W B H σ Q E k =>
  h F W B H σ _ E fun v B1 H1 e1 E1 q1 => hr F W B1 H1 σ _ E1 fun vs B2 H2 e2 E2 q2 => k (v :: vs) B2 H2 (e1.trans e2) E2 (.cons (q1.mono e2) q2)
theorem ea_1 (h : EE T te ρ d ρ1) : EA T (tCons te tNil) ρ [d] ρ1 := ea_cons h ea_nil
theorem ea_2 (h : EE T ta ρ x ρ1) (h2 : EE T tb ρ1 y ρ2) : EA T (tCons ta (tCons tb tNil)) ρ [x, y] ρ2 := ea_cons h (ea_1 h2)
theorem ea_3 (h : EE T ta ρ x ρ1) (h2 : EE T tb ρ1 y ρ2) (h3 : EE T tc ρ2 z ρ3) : EA T (tCons ta (tCons tb (tCons tc tNil))) ρ [x, y, z] ρ3 := ea_cons h (ea_2 h2 h3)
theorem sz_of {n : Nat} (h : n ≤ 100000) : n ≤ sizeLine := Nat.le_trans h (by decide)
theorem sz_lt {n : Nat} (h : n < 100000) : n < sizeLine := Nat.lt_of_lt_of_le h (by decide)
theorem ee_tup {tr : TA} (h : EA T tr ρ ds ρ1) (hl : ds.length ≤ 100000) : EE T (tTup tr) ρ (.tuple ds) ρ1 := fun F W B H σ Q E k =>
  h F W B H σ _ E fun vs B1 H1 e1 E1 q1 => ⟨by rw [q1.length]; exact sz_of hl, fun p hp => by
    have g := Grow.new (o := .tup vs) E1.bh hp (fun ps z => by cases z)
    exact k _ _ _ (e1.trans g.bb) (E1.grow g) (.tup upd_same (q1.mono g.bb))⟩
theorem el_lst {tr : TA} (h : EA T tr ρ ds ρ1) (hl : ds.length ≤ 100000) : EL T (tLst tr) ρ ds ρ1 := fun F W B H σ Q E k =>
  h F W B H σ _ E fun vs B1 H1 e1 E1 q1 => ⟨by rw [q1.length]; exact sz_of hl, fun p hp => by
    have g := Grow.junk (o := .lst vs) E1.bh hp
    exact k p vs B1 _ e1 (E1.grow g) (Evl.fresh_back E1.bh hp) (Evl.fresh_back E1.fh hp) upd_same q1 (E1.notOwn hp)⟩

/-! ### operations on data -/
def RE (r : R2) (x y z : PyData) : Prop := ∀ B H vx vy (Q : VK), Ex B H → (∀ p ps, B p ≠ some (.tbl ps)) → Dt B vx x → Dt B vy y → (∀ v B' H', Grow B H B' H' → Dt B' v z → Q v H') → r vx vy H Q
def RB (r : List V → Hp → VK → Prop) (ds : List PyData) (z : PyData) : Prop := ∀ B H vs (Q : VK), Ex B H → (∀ p ps, B p ≠ some (.tbl ps)) → DtAll B vs ds → (∀ v B' H', Grow B H B' H' → Dt B' v z → Q v H') → r vs H Q
/-- .. a new list -/
def RBL (r : List V → Hp → VK → Prop) (ds es : List PyData) : Prop := ∀ B H vs (Q : VK), Ex B H → DtAll B vs ds → (∀ p xs H', H p = none → Ex H H' → H' p = some (.lst xs) → DtAll B xs es → Q (.ref p) H') → r vs H Q
def REL (r : R2) (x y : PyData) (es : List PyData) : Prop := ∀ B H vx vy (Q : VK), Ex B H → Dt B vx x → Dt B vy y → (∀ p xs H', H p = none → Ex H H' → H' p = some (.lst xs) → DtAll B xs es → Q (.ref p) H') → r vx vy H Q
theorem ee_op {r : R2} (ha : EE T ta ρ x ρ1) (hb : EE T tb ρ1 y ρ2) (hr : RE r x y z) : EE T (tOp r ta tb) ρ z ρ2 := fun F W B H σ Q E k =>
  ha F W B H σ _ E fun v B1 H1 e1 E1 q1 => hb F W B1 H1 σ _ E1 fun u B2 H2 e2 E2 q2 => hr B2 H2 v u Q E2.bh E2.bt (q1.mono e2) q2 fun w B3 H3 g q3 => k w B3 H3 ((e1.trans e2).trans g.bb) (E2.grow g) q3
theorem el_op {r : R2} (ha : EE T ta ρ x ρ1) (hb : EE T tb ρ1 y ρ2) (hr : REL r x y es) : EL T (tOp r ta tb) ρ es ρ2 := fun F W B H σ Q E k =>
  ha F W B H σ _ E fun v B1 H1 e1 E1 q1 => hb F W B1 H1 σ _ E1 fun u B2 H2 e2 E2 q2 => hr B2 H2 v u Q E2.bh (q1.mono e2) q2 fun p xs H3 hp e3 h3 q3 =>
    k p xs B2 H3 (e1.trans e2) (E2.grow (Grow.ex E2.bh e3)) (Evl.fresh_back E2.bh hp) (Evl.fresh_back E2.fh hp) h3 q3 (E2.notOwn hp)
theorem ee_cb {r : List V → Hp → VK → Prop} {tr : TA} (h : EA T tr ρ ds ρ1) (hr : RB r ds z) : EE T (tCB r tr) ρ z ρ1 := fun F W B H σ Q E k =>
  h F W B H σ _ E fun vs B1 H1 e1 E1 q1 => hr B1 H1 vs Q E1.bh E1.bt q1 fun w B2 H2 g q2 => k w B2 H2 (e1.trans g.bb) (E1.grow g) q2
theorem el_cb {r : List V → Hp → VK → Prop} {tr : TA} (h : EA T tr ρ ds ρ1) (hr : RBL r ds es) : EL T (tCB r tr) ρ es ρ1 := fun F W B H σ Q E k =>
  h F W B H σ _ E fun vs B1 H1 e1 E1 q1 => hr B1 H1 vs Q E1.bh q1 fun p xs H2 hp e2 h2 q2 =>
    k p xs B1 H2 e1 (E1.grow (Grow.ex E1.bh e2)) (Evl.fresh_back E1.bh hp) (Evl.fresh_back E1.fh hp) h2 q2 (E1.notOwn hp)
theorem RBL.rb {r : List V → Hp → VK → Prop} (h : RBL r ds es) : RB r ds (.list es) := fun B H vs Q e bt q k => h B H vs Q e q fun p xs H' hp e' h' q' => by
  have hB := Evl.fresh_back e hp
  refine k (.ref p) (upd B p (.lst xs)) H' ⟨Ex.new hB, fun a o ha => ?_, e', fun a h1 h2 => ?_, fun h a ps => ?_⟩ (.lst upd_same (q'.mono (Ex.new hB)))
  · by_cases z : a = p
    · subst z; rw [upd_same] at ha; rw [h']; exact ha
    · rw [upd_ne z] at ha; exact e' a o (e a o ha)
  · rw [upd_ne (fun z => h2 (by rw [z]; exact hp))]; exact h1
  · by_cases z : a = p
    · subst z; rw [upd_same]; exact fun z => by cases z
    · rw [upd_ne z]; exact h a ps
end

section
variable {i j : Int} {x y : PyData}
theorem re_I0 {g : Int → Int → V} {z : PyData} (hz : ∀ B, Dt B (g i j) z) : RE (rI0 g) (.int i) (.int j) z := fun B H vx vy Q e bt h1 h2 k => by
  have e1 := h1.inv_int; have e2 := h2.inv_int
  exact ⟨i, j, e1, e2, k _ B H (Grow.refl e) (hz B)⟩
theorem re_I {C : Int → Int → Prop} {g : Int → Int → V} {z : PyData} (hc : C i j) (hz : ∀ B, Dt B (g i j) z) : RE (rI C g) (.int i) (.int j) z := fun B H vx vy Q e bt h1 h2 k => by
  have e1 := h1.inv_int; have e2 := h2.inv_int
  exact ⟨i, j, e1, e2, hc, k _ B H (Grow.refl e) (hz B)⟩
theorem re_add : RE (rI0 fun i j => .int (i + j)) (.int i) (.int j) (.int (i + j)) := re_I0 fun _ => .int _
theorem re_sub : RE (rI0 fun i j => .int (i - j)) (.int i) (.int j) (.int (i - j)) := re_I0 fun _ => .int _
theorem re_mod (h : 0 < j) : RE (rI (fun _ j => 0 < j) fun i j => .int (i % j)) (.int i) (.int j) (.int (i % j)) := re_I h fun _ => .int _
theorem re_fdiv (h : 0 < j) (h2 : j < 1073741824) : RE (rI CDiv fun i j => .int (i / j)) (.int i) (.int j) (.int (i / j)) := re_I ⟨h, h2⟩ fun _ => .int _
theorem re_mulL (h : -(2 ^ 64) < i ∧ i < 2 ^ 64) : RE (rI CMul fun i j => .int (i * j)) (.int i) (.int j) (.int (i * j)) := re_I (.inl h) fun _ => .int _
theorem re_mulR (h : -(2 ^ 64) < j ∧ j < 2 ^ 64) : RE (rI CMul fun i j => .int (i * j)) (.int i) (.int j) (.int (i * j)) := re_I (.inr h) fun _ => .int _
theorem re_lt : RE (rI0 fun i j => .bl (decide (i < j))) (.int i) (.int j) (.bool (decide (i < j))) := re_I0 fun _ => .bl _
theorem re_le : RE (rI0 fun i j => .bl (decide (i ≤ j))) (.int i) (.int j) (.bool (decide (i ≤ j))) := re_I0 fun _ => .bl _
theorem re_gt : RE (rI0 fun i j => .bl (decide (j < i))) (.int i) (.int j) (.bool (decide (j < i))) := re_I0 fun _ => .bl _
theorem re_ge : RE (rI0 fun i j => .bl (decide (j ≤ i))) (.int i) (.int j) (.bool (decide (j ≤ i))) := re_I0 fun _ => .bl _
theorem re_eqI : RE rEq (.int i) (.int j) (.bool (decide (i = j))) := fun B H vx vy Q e bt h1 h2 k => by
  have e1 := h1.inv_int; have e2 := h2.inv_int
  subst e1 e2
  refine ⟨rfl, ?_⟩
  have : decide (V.int i = V.int j) = decide (i = j) := by simp
  rw [this]
  exact k _ B H (Grow.refl e) (.bl _)
theorem re_neI : RE rNe (.int i) (.int j) (.bool (!decide (i = j))) := fun B H vx vy Q e bt h1 h2 k => by
  have e1 := h1.inv_int; have e2 := h2.inv_int
  subst e1 e2
  refine ⟨rfl, ?_⟩
  have : decide (V.int i = V.int j) = decide (i = j) := by simp
  rw [this]
  exact k _ B H (Grow.refl e) (.bl _)
theorem re_eqB {a b : Bool} : RE rEq (.bool a) (.bool b) (.bool (decide (a = b))) := fun B H vx vy Q e bt h1 h2 k => by
  have e1 := h1.inv_bl; have e2 := h2.inv_bl
  subst e1 e2
  refine ⟨rfl, ?_⟩
  have : decide (V.bl a = V.bl b) = decide (a = b) := by simp
  rw [this]
  exact k _ B H (Grow.refl e) (.bl _)
theorem re_neB {a b : Bool} : RE rNe (.bool a) (.bool b) (.bool (!decide (a = b))) := fun B H vx vy Q e bt h1 h2 k => by
  have e1 := h1.inv_bl; have e2 := h2.inv_bl
  subst e1 e2
  refine ⟨rfl, ?_⟩
  have : decide (V.bl a = V.bl b) = decide (a = b) := by simp
  rw [this]
  exact k _ B H (Grow.refl e) (.bl _)
/-- == and != of data -/
theorem re_eqD {K : PySem.W.Frag} (h1 : SeqAt.shaped x = true) (h2 : SeqAt.shaped y = true) : RE (rEqD K) x y (.bool (PyData.eqv x y)) := fun B H vx vy Q e bt q1 q2 k =>
  ⟨x, y, q1.dp e, q2.dp e, h1, h2, k _ B H (Grow.refl e) (.bl _)⟩
theorem re_neD {K : PySem.W.Frag} (h1 : SeqAt.shaped x = true) (h2 : SeqAt.shaped y = true) : RE (rNeD K) x y (.bool (!PyData.eqv x y)) := fun B H vx vy Q e bt q1 q2 k =>
  ⟨x, y, q1.dp e, q2.dp e, h1, h2, k _ B H (Grow.refl e) (.bl _)⟩
/-- is None -/
def isNone : PyData → Bool
  | .none => true
  | _ => false
theorem dt_none {B : Hp} {v : V} {d : PyData} (h : Dt B v d) : decide (v = .non) = isNone d := by
  cases h <;> simp [isNone]
theorem re_isN : RE (fun x y H Q => y = .non ∧ Q (.bl (decide (x = .non))) H) x .none (.bool (isNone x)) := fun B H vx vy Q e bt q1 q2 k => ⟨q2.inv_non, by rw [dt_none q1]; exact k _ B H (Grow.refl e) (.bl _)⟩
theorem re_notN : RE (fun x y H Q => y = .non ∧ Q (.bl (!decide (x = .non))) H) x .none (.bool (!isNone x)) := fun B H vx vy Q e bt q1 q2 k => ⟨q2.inv_non, by rw [dt_none q1]; exact k _ B H (Grow.refl e) (.bl _)⟩
theorem atI_dt {B : Hp} {vs : List V} {ds : List PyData} {d : PyData} (q : DtAll B vs ds) (h : atI ds i = some d) : ∃ v, atI vs i = some v ∧ Dt B v d := by
  unfold atI at h ⊢
  rw [q.length]
  cases e : ixN ds.length i with
  | none => rw [e] at h; cases h
  | some j =>
    rw [e] at h
    exact q.get h
theorem re_ixT {K : PySem.W.Frag} {ds : List PyData} {d : PyData} (h : atI ds i = some d) : RE (rIxT K) (.tuple ds) (.int i) d := fun B H vx vy Q e bt q1 q2 k => by
  obtain ⟨a, xs, e1, e2, q⟩ := q1.inv_tup
  obtain ⟨v, h1, h2⟩ := atI_dt q h
  exact ⟨a, xs, i, v, e1, q2.inv_int, SqT.of (e _ _ e2), h1, k v B H (Grow.refl e) h2⟩
theorem re_ixL {K : PySem.W.Frag} {ds : List PyData} {d : PyData} (h : atI ds i = some d) : RE (rIxL K) (.list ds) (.int i) d := fun B H vx vy Q e bt q1 q2 k => by
  obtain ⟨a, xs, e1, e2, q⟩ := q1.inv_lst
  obtain ⟨v, h1, h2⟩ := atI_dt q h
  exact ⟨a, xs, i, v, e1, q2.inv_int, SqL.of (e _ _ e2), h1, k v B H (Grow.refl e) h2⟩
theorem rel_cat {ds es : List PyData} (hl : ds.length + es.length ≤ 100000) : REL rCat (.list ds) (.list es) (ds ++ es) := fun B H vx vy Q e q1 q2 k => by
  obtain ⟨a, xs, e1, e2, q⟩ := q1.inv_lst
  obtain ⟨b, ys, f1, f2, r⟩ := q2.inv_lst
  exact ⟨a, b, xs, ys, e1, f1, e _ _ e2, e _ _ f2, by rw [q.length, r.length]; exact sz_of hl, fun p hp => k p _ _ hp (Ex.new hp) upd_same (q.append r)⟩
theorem re_catT {K : PySem.W.Frag} {ds es : List PyData} (hl : ds.length + es.length ≤ 100000) : RE (rCatA K) (.tuple ds) (.tuple es) (.tuple (ds ++ es)) := fun B H vx vy Q e bt q1 q2 k => by
  obtain ⟨a, xs, e1, e2, q⟩ := q1.inv_tup
  obtain ⟨b, ys, f1, f2, r⟩ := q2.inv_tup
  subst e1 f1
  refine ⟨a, b, xs, ys, rfl, rfl, SqT.of (e _ _ e2), SqT.of (e _ _ f2), by rw [q.length, r.length]; exact sz_of hl, fun h => ?_, fun _ h => ?_, fun _ _ p hp => ?_⟩
  · subst h; cases q; exact k _ B H (Grow.refl e) q2
  · subst h; cases r; exact k _ B H (Grow.refl e) (by rw [List.append_nil]; exact q1)
  · have g := Grow.new (o := .tup (xs ++ ys)) e hp (fun ps z => by cases z)
    exact k _ _ _ g (.tup upd_same ((q.append r).mono g.bb))
end

/-! ### tests, and, or, not -/
section
variable {T : TL} {te ta tb tc : TE} {tt tu : TT} {ρ ρ1 ρ2 ρ3 : List Sl} {d x y z : PyData} {ds es : List PyData} {a b : Bool}
theorem et_test (h : EE T te ρ (.bool b) ρ1) : ET T (tTest te) ρ b ρ1 := fun F W B H σ Q E k => h F W B H σ _ E fun v B1 H1 e1 E1 q1 => ⟨b, q1.inv_bl, k B1 H1 e1 E1⟩
theorem et_B (h : EE T te ρ (.bool b) ρ1) : ET T (tB te) ρ b ρ1 := fun F W B H σ Q E k => h F W B H σ _ E fun v B1 H1 e1 E1 q1 => ⟨b, q1.inv_bl, k B1 H1 e1 E1⟩
theorem et_not (h : ET T tt ρ b ρ1) : ET T (tNot tt) ρ (!b) ρ1 := fun F W B H σ Q E k => h F W B H σ _ E fun B1 H1 e1 E1 => k B1 H1 e1 E1
theorem et_andT (h : ET T tt ρ true ρ1) (h2 : ET T tu ρ1 b ρ2) : ET T (tAnd tt tu) ρ b ρ2 := fun F W B H σ Q E k => h F W B H σ _ E fun B1 H1 e1 E1 => by
  rw [if_pos rfl]; exact h2 F W B1 H1 σ _ E1 fun B2 H2 e2 E2 => k B2 H2 (e1.trans e2) E2
theorem et_andF (h : ET T tt ρ false ρ1) : ET T (tAnd tt tu) ρ false ρ1 := fun F W B H σ Q E k => h F W B H σ _ E fun B1 H1 e1 E1 => by
  rw [if_neg Bool.false_ne_true]; exact k B1 H1 e1 E1
theorem et_and (h : ET T tt ρ a ρ) (h2 : a = true → ET T tu ρ b ρ) : ET T (tAnd tt tu) ρ (a && b) ρ := by
  cases a with
  | true => exact et_andT h (h2 rfl)
  | false => exact et_andF h
theorem et_orT (h : ET T tt ρ true ρ1) : ET T (tOr tt tu) ρ true ρ1 := fun F W B H σ Q E k => h F W B H σ _ E fun B1 H1 e1 E1 => by
  rw [if_pos rfl]; exact k B1 H1 e1 E1
theorem et_orF (h : ET T tt ρ false ρ1) (h2 : ET T tu ρ1 b ρ2) : ET T (tOr tt tu) ρ b ρ2 := fun F W B H σ Q E k => h F W B H σ _ E fun B1 H1 e1 E1 => by
  rw [if_neg Bool.false_ne_true]; exact h2 F W B1 H1 σ _ E1 fun B2 H2 e2 E2 => k B2 H2 (e1.trans e2) E2
theorem et_or (h : ET T tt ρ a ρ) (h2 : a = false → ET T tu ρ b ρ) : ET T (tOr tt tu) ρ (a || b) ρ := by
  cases a with
  | true => exact et_orT h
  | false => exact et_orF h (h2 rfl)
theorem ee_andT (h : EE T ta ρ (.bool true) ρ1) (h2 : EE T tb ρ1 d ρ2) : EE T (tAndV ta tb) ρ d ρ2 := fun F W B H σ Q E k => h F W B H σ _ E fun v B1 H1 e1 E1 q1 => ⟨true, q1.inv_bl, by
  rw [if_pos rfl]; exact h2 F W B1 H1 σ _ E1 fun u B2 H2 e2 E2 q2 => k u B2 H2 (e1.trans e2) E2 q2⟩
theorem ee_andF (h : EE T ta ρ (.bool false) ρ1) : EE T (tAndV ta tb) ρ (.bool false) ρ1 := fun F W B H σ Q E k => h F W B H σ _ E fun v B1 H1 e1 E1 q1 => ⟨false, q1.inv_bl, by
  rw [if_neg Bool.false_ne_true]; exact k _ B1 H1 e1 E1 (.bl _)⟩
theorem ee_and (h : EE T ta ρ (.bool a) ρ) (h2 : a = true → EE T tb ρ (.bool b) ρ) : EE T (tAndV ta tb) ρ (.bool (a && b)) ρ := by
  cases a with
  | true => exact ee_andT h (h2 rfl)
  | false => exact ee_andF h
theorem ee_orT (h : EE T ta ρ (.bool true) ρ1) : EE T (tOrV ta tb) ρ (.bool true) ρ1 := fun F W B H σ Q E k => h F W B H σ _ E fun v B1 H1 e1 E1 q1 => ⟨true, q1.inv_bl, by
  rw [if_pos rfl]; exact k _ B1 H1 e1 E1 (.bl _)⟩
theorem ee_orF (h : EE T ta ρ (.bool false) ρ1) (h2 : EE T tb ρ1 d ρ2) : EE T (tOrV ta tb) ρ d ρ2 := fun F W B H σ Q E k => h F W B H σ _ E fun v B1 H1 e1 E1 q1 => ⟨false, q1.inv_bl, by
  rw [if_neg Bool.false_ne_true]; exact h2 F W B1 H1 σ _ E1 fun u B2 H2 e2 E2 q2 => k u B2 H2 (e1.trans e2) E2 q2⟩
theorem ee_or (h : EE T ta ρ (.bool a) ρ) (h2 : a = false → EE T tb ρ (.bool b) ρ) : EE T (tOrV ta tb) ρ (.bool (a || b)) ρ := by
  cases a with
  | true => exact ee_orT h
  | false => exact ee_orF h (h2 rfl)
theorem ee_not (h : EE T te ρ (.bool b) ρ1) : EE T (tNotV te) ρ (.bool (!b)) ρ1 := fun F W B H σ Q E k => h F W B H σ _ E fun v B1 H1 e1 E1 q1 => ⟨b, q1.inv_bl, k _ B1 H1 e1 E1 (.bl _)⟩
theorem ee_if (h : ET T tt ρ b ρ1) (h1 : b = true → EE T ta ρ1 d ρ2) (h2 : b = false → EE T tb ρ1 d ρ2) : EE T (tIf tt ta tb) ρ d ρ2 := fun F W B H σ Q E k => h F W B H σ _ E fun B1 H1 e1 E1 => by
  cases b with
  | true => exact h1 rfl F W B1 H1 σ _ E1 fun u B2 H2 e2 E2 q2 => k u B2 H2 (e1.trans e2) E2 q2
  | false => exact h2 rfl F W B1 H1 σ _ E1 fun u B2 H2 e2 E2 q2 => k u B2 H2 (e1.trans e2) E2 q2
/-- lo <= x <= hi -/
theorem ee_chain {r r' : R2} (ha : EE T ta ρ x ρ1) (hb : EE T tb ρ1 y ρ2) (hr : RE r x y (.bool a)) (hc : a = true → ∃ z, EE T tc ρ2 z ρ2 ∧ RE r' y z (.bool b)) : EE T (tChain r r' ta tb tc) ρ (.bool (a && b)) ρ2 := fun F W B H σ Q E k =>
  ha F W B H σ _ E fun v B1 H1 e1 E1 q1 => hb F W B1 H1 σ _ E1 fun u B2 H2 e2 E2 q2 => hr B2 H2 v u _ E2.bh E2.bt (q1.mono e2) q2 fun w B3 H3 g q3 => ⟨a, q3.inv_bl, by
    cases a with
    | true =>
      obtain ⟨z, hz, hr'⟩ := hc rfl
      show tc σ H3 _
      exact hz F W B3 H3 σ _ (E2.grow g) fun w' B4 H4 e4 E4 q4 => hr' B4 H4 u w' Q E4.bh E4.bt (q2.mono (g.bb.trans e4)) q4 fun w2 B5 H5 g5 q5 => k w2 B5 H5 ((((e1.trans e2).trans g.bb).trans e4).trans g5.bb) (E4.grow g5) q5
    | false =>
      show Q (.bl false) H3
      exact k _ B3 H3 ((e1.trans e2).trans g.bb) (E2.grow g) (.bl _)⟩
/-- parts of a slice -/
theorem eo_none : EO T tNoPart ρ none ρ := fun F W B H σ Q E k => k B H (Ex.refl _) E
theorem eo_some {i : Int} (h : EE T te ρ (.int i) ρ1) : EO T (tPart te) ρ (some i) ρ1 := fun F W B H σ Q E k => h F W B H σ _ E fun v B1 H1 e1 E1 q1 => ⟨i, q1.inv_int, k B1 H1 e1 E1⟩
def cutD (xs : List PyData) (lo hi : Option Int) : List PyData := (xs.drop (HT.sIx xs.length 0 lo)).take (HT.sIx xs.length xs.length hi - HT.sIx xs.length 0 lo)
theorem cut_dt {B : Hp} {vs : List V} {lo hi : Option Int} (q : DtAll B vs ds) : DtAll B (cutV vs lo hi) (cutD ds lo hi) := by
  unfold cutV cutD
  rw [q.length]
  exact (q.drop _).take _
theorem el_sl {K : PySem.W.Frag} {tl th : TO} {lo hi : Option Int} (h : EE T te ρ (.list ds) ρ1) (h1 : EO T tl ρ1 lo ρ2) (h2 : EO T th ρ2 hi ρ3) : EL T (tSl (rSlL K) te tl th) ρ (cutD ds lo hi) ρ3 := fun F W B H σ Q E k =>
  h F W B H σ _ E fun v B1 H1 e1 E1 q1 => h1 F W B1 H1 σ _ E1 fun B2 H2 e2 E2 => h2 F W B2 H2 σ _ E2 fun B3 H3 e3 E3 => by
    obtain ⟨a, xs, f1, f2, q⟩ := (q1.mono (e2.trans e3)).inv_lst
    exact ⟨a, xs, f1, SqL.of (E3.bh _ _ f2), fun p hp => k p _ B3 _ ((e1.trans e2).trans e3) (E3.grow (Grow.junk E3.bh hp)) (Evl.fresh_back E3.bh hp) (Evl.fresh_back E3.fh hp) upd_same (cut_dt q) (E3.notOwn hp)⟩
theorem ee_slT {K : PySem.W.Frag} {tl th : TO} {lo hi : Option Int} (h : EE T te ρ (.tuple ds) ρ1) (h1 : EO T tl ρ1 lo ρ2) (h2 : EO T th ρ2 hi ρ3) : EE T (tSl (rSlA K) te tl th) ρ (.tuple (cutD ds lo hi)) ρ3 := fun F W B H σ Q E k =>
  h F W B H σ _ E fun v B1 H1 e1 E1 q1 => h1 F W B1 H1 σ _ E1 fun B2 H2 e2 E2 => h2 F W B2 H2 σ _ E2 fun B3 H3 e3 E3 => by
    have q3 := q1.mono (e2.trans e3)
    obtain ⟨a, xs, f1, f2, q⟩ := q3.inv_tup
    subst f1
    refine ⟨a, xs, rfl, SqT.of (E3.bh _ _ f2), fun hw => ?_, fun hw p hp => ?_⟩
    · have e : cutD ds lo hi = ds := by
        unfold cutD
        rw [← q.length, hw.1, hw.2, List.drop_zero, Nat.sub_zero, q.length, List.take_length]
      exact k _ B3 H3 ((e1.trans e2).trans e3) E3 (by rw [e]; exact q3)
    · have g := Grow.new (o := .tup (cutV xs lo hi)) E3.bh hp (fun ps z => by cases z)
      exact k _ _ _ (((e1.trans e2).trans e3).trans g.bb) (E3.grow g) (.tup upd_same ((cut_dt q).mono g.bb))
end
end DL
namespace DL
open PySem L2
theorem ee_is_bool {T : TL} {te : TE} {ρ ρ1 : List Sl} {a b : Bool} (h : EE T te ρ (.bool a) ρ1) (e : a = b) : EE T te ρ (.bool b) ρ1 := by rw [← e]; exact h
end DL
namespace DL
open PySem L2
open Evl (Ex)

/-! ### statements -/
inductive Out where
  | nx (ρ : List Sl)
  | rt (d : PyData) (ρ : List Sl)
  | ex (C : Addr) (ρ : List Sl)
def Post (T : TL) (X : XK) (F : Hp) (W : Addr → Prop) (D : Ends) (B : Hp) : Out → Prop
  | .nx ρ => ∀ σ' B' H', Ex B B' → Env T F W B' H' σ' ρ → D.nx σ' H'
  | .rt d ρ => ∀ v σ' B' H', Ex B B' → Env T F W B' H' σ' ρ → Dt B' v d → D.rt v H'
  | .ex C ρ => ∀ σ' B' H', Ex B B' → Env T F W B' H' σ' ρ → X (.ref C) none H'
def SS (T : TL) (X : XK) (t : TS) (ρ : List Sl) (o : Out) : Prop := ∀ F W D B H σ, Env T F W B H σ ρ → Post T X F W D B o → t D σ H
/-- a target takes a datum -/
def EG (T : TL) (g : TG) (d : PyData) (ρ ρ' : List Sl) : Prop := ∀ F W B H σ v (Q : Sigma → Hp → Prop), Env T F W B H σ ρ → Dt B v d → (∀ σ', Env T F W B H σ' ρ' → Q σ' H) → g v σ H Q
/-- P d ρ o: one turn -/
inductive ForR (P : PyData → List Sl → Out → Prop) : List PyData → List Sl → Out → Prop
  | nil {ρ : List Sl} : ForR P [] ρ (.nx ρ)
  | next {d : PyData} {ds : List PyData} {ρ ρ1 : List Sl} {o : Out} : P d ρ (.nx ρ1) → ForR P ds ρ1 o → ForR P (d :: ds) ρ o
  | stop {d : PyData} {ds : List PyData} {ρ ρ1 : List Sl} {e : PyData} : P d ρ (.rt e ρ1) → ForR P (d :: ds) ρ (.rt e ρ1)
  | exc {d : PyData} {ds : List PyData} {ρ ρ1 : List Sl} {C : Addr} : P d ρ (.ex C ρ1) → ForR P (d :: ds) ρ (.ex C ρ1)
section
variable {T : TL} {X : XK} {te ta tb tc : TE} {tt tu : TT} {t u : TS} {ρ ρ1 ρ2 ρ3 : List Sl} {d x y z : PyData} {ds es : List PyData} {b : Bool} {o : Out} {g : TG} {i j : Nat} {K : PySem.W.Frag}
theorem Post.le {F : Hp} {W : Addr → Prop} {D : Ends} {B B1 : Hp} (e : Ex B B1) (h : Post T X F W D B o) : Post T X F W D B1 o := by
  cases o with
  | nx ρ => exact fun σ' B' H' e' E => h σ' B' H' (e.trans e') E
  | rt d ρ => exact fun v σ' B' H' e' E => h v σ' B' H' (e.trans e') E
  | ex C ρ => exact fun σ' B' H' e' E => h σ' B' H' (e.trans e') E
theorem ss_next : SS T X tNext ρ (.nx ρ) := fun F W D B H σ E k => k σ B H (Ex.refl _) E
theorem ss_seq (h : SS T X t ρ (.nx ρ1)) (h2 : SS T X u ρ1 o) : SS T X (tSeq t u) ρ o := fun F W D B H σ E k =>
  h F W { D with nx := u D } B H σ E fun σ' B' H' e' E' => h2 F W D B' H' σ' E' (k.le e')
theorem ss_seqR (h : SS T X t ρ (.rt d ρ1)) : SS T X (tSeq t u) ρ (.rt d ρ1) := fun F W D B H σ E k => h F W { D with nx := u D } B H σ E k
theorem ss_seqX {C : Addr} (h : SS T X t ρ (.ex C ρ1)) : SS T X (tSeq t u) ρ (.ex C ρ1) := fun F W D B H σ E k => h F W { D with nx := u D } B H σ E k
theorem ss_if (h : ET T tt ρ b ρ1) (h1 : b = true → SS T X t ρ1 o) (h2 : b = false → SS T X u ρ1 o) : SS T X (tIfS tt t u) ρ o := fun F W D B H σ E k =>
  h F W B H σ _ E fun B' H' e' E' => by
    cases b with
    | true => exact h1 rfl F W D B' H' σ E' (k.le e')
    | false => exact h2 rfl F W D B' H' σ E' (k.le e')
theorem ss_ret (h : EE T te ρ d ρ1) : SS T X (tRet te) ρ (.rt d ρ1) := fun F W D B H σ E k => h F W B H σ _ E fun v B' H' e' E' q => k v σ B' H' e' E' q
theorem ss_drop (h : EE T te ρ d ρ1) : SS T X (tDrop te) ρ (.nx ρ1) := fun F W D B H σ E k => h F W B H σ _ E fun v B' H' e' E' q => k σ B' H' e' E'
theorem ss_set (h : EE T te ρ d ρ1) : SS T X (tAsg te (gName i)) ρ (.nx (ρ1.set i (.dat d))) := fun F W D B H σ E k => h F W B H σ _ E fun v B' H' e' E' q => k _ B' H' e' (E'.set q)
theorem ss_own (h : EL T te ρ ds ρ1) : SS T X (tAsg te (gName i)) ρ (.nx (ρ1.set i (.own none ds))) := fun F W D B H σ E k => h F W B H σ _ E fun p xs B' H' e' E' h1 h2 h3 h4 h5 => k _ B' H' e' (E'.setOwn h1 h2 h3 h4 h5)
theorem ss_par (h : EA T (tCons ta (tCons tb tNil)) ρ [x, y] ρ1) : SS T X (tPar i j (tCons ta (tCons tb tNil))) ρ (.nx ((ρ1.set i (.dat x)).set j (.dat y))) := fun F W D B H σ E k => h F W B H σ _ E fun vs B' H' e' E' q => by
  cases q with
  | cons q1 q2 =>
    cases q2 with
    | cons q2 q3 =>
      cases q3
      exact ⟨_, _, rfl, k _ B' H' e' ((E'.set q1).set q2)⟩
/-- x, y = e, a new list -/
theorem ss_parL (h : EE T ta ρ x ρ1) (h2 : EL T tb ρ1 ds ρ2) : SS T X (tPar i j (tCons ta (tCons tb tNil))) ρ (.nx ((ρ2.set i (.dat x)).set j (.own none ds))) := fun F W D B H σ E k =>
  h F W B H σ _ E fun v B1 H1 e1 E1 q1 => h2 F W B1 H1 σ _ E1 fun p xs B2 H2 e2 E2 h1 h2 h3 h4 h5 => ⟨v, .ref p, rfl, k _ B2 H2 (e1.trans e2) ((E2.set (q1.mono e2)).setOwn h1 h2 h3 h4 (fun a qb es ha => by
    by_cases hi : i = a
    · subst hi
      by_cases hl : i < ρ2.length
      · rw [List.getElem?_set_self hl] at ha; cases ha
      · rw [List.getElem?_eq_none (by simpa using hl)] at ha; cases ha
    · rw [List.getElem?_set_ne hi] at ha ⊢
      exact h5 a qb es ha))⟩
theorem eg_name : EG T (gName i) d ρ (ρ.set i (.dat d)) := fun F W B H σ v Q E q k => k _ (E.set q)
theorem eg_tup2 : EG T (gTup K 2 (gCons (gName i) (gCons (gName j) gNil))) (.tuple [x, y]) ρ ((ρ.set i (.dat x)).set j (.dat y)) := fun F W B H σ v Q E q k => by
  obtain ⟨a, xs, e1, e2, q⟩ := q.inv_tup
  refine ⟨a, xs, e1, SqT.of (E.bh _ _ e2), q.length, ?_⟩
  cases q with
  | cons q1 q2 =>
    cases q2 with
    | cons q2 q3 =>
      cases q3
      exact ⟨_, _, rfl, _, _, rfl, rfl, k _ ((E.set q1).set q2)⟩
theorem ss_asg (h : EE T te ρ d ρ1) (hg : EG T g d ρ1 ρ2) : SS T X (tAsg te g) ρ (.nx ρ2) := fun F W D B H σ E k => h F W B H σ _ E fun v B' H' e' E' q => hg F W B' H' σ v _ E' q fun σ2 E2 => k _ B' H' e' E2
theorem ss_weak (w : Weaker ρ ρ1) (h : SS T X t ρ1 o) : SS T X t ρ o := fun F W D B H σ E k => h F W D B H σ (E.weak w) k
theorem ss_forget (h : SS T X t ρ (.nx ρ1)) (w : Weaker ρ1 ρ2) : SS T X t ρ (.nx ρ2) := fun F W D B H σ E k => h F W D B H σ E fun σ' B' H' e' E' => k σ' B' H' e' (E'.weak w)
theorem ss_forgetR (h : SS T X t ρ (.rt d ρ1)) (w : Weaker ρ1 ρ2) : SS T X t ρ (.rt d ρ2) := fun F W D B H σ E k => h F W D B H σ E fun v σ' B' H' e' E' => k v σ' B' H' e' (E'.weak w)
theorem ss_give {qa : Option Addr} (hi : ρ[i]? = some (.own qa ds)) (h : SS T X t (ρ.set i (.dat (.list ds))) o) : SS T X t ρ o := fun F W D B H σ E k => by
  obtain ⟨B', e, E'⟩ := E.give hi
  exact h F W D B' H σ E' (k.le e)
theorem ss_is {o' : Out} (h : SS T X t ρ o) (e : o = o') : SS T X t ρ o' := by rw [← e]; exact h
/-- found.append(e) -/
theorem ss_app {qa qb : Option Addr} (hi : ρ[i]? = some (.own qa ds)) (h : EE T te ρ d ρ1) (hi1 : ρ1[i]? = some (.own qb es)) (hl : es.length < 100000) : SS T X (tDrop (tBM K "list" rAppend (tVar i) (tCons te tNil))) ρ (.nx (ρ1.set i (.own qb (es ++ [d])))) := fun F W D B H σ E k => by
  obtain ⟨p, xs, h1, h2, h3, h4, h5⟩ := E.own hi
  refine ⟨_, h1, .inl ⟨rfl, xs, SqL.of h4⟩, h F W B H σ _ E fun v B1 H1 e1 E1 q1 => ?_⟩
  obtain ⟨p', ys, f1, f2, f3, f4, f5⟩ := E1.own hi1
  rw [h1] at f1
  cases f1
  exact ⟨p, ys, v, rfl, rfl, f4, by rw [f5.length]; exact sz_lt hl, k σ B1 _ e1 (E1.write hi1 h1 (f5.append (.one q1)))⟩
/-- a place of an own list -/
theorem ee_ixOwn {qa qb : Option Addr} {k : Int} (hi : ρ[i]? = some (.own qa ds)) (h : EE T tb ρ (.int k) ρ1) (hi1 : ρ1[i]? = some (.own qb es)) (ha : atI es k = some d) : EE T (tOp (rIxL K) (tVar i) tb) ρ d ρ1 := fun F W B H σ Q E kk => by
  obtain ⟨p, xs, h1, h2, h3, h4, h5⟩ := E.own hi
  refine ⟨_, h1, h F W B H σ _ E fun v B1 H1 e1 E1 q1 => ?_⟩
  obtain ⟨p', ys, f1, f2, f3, f4, f5⟩ := E1.own hi1
  rw [h1] at f1
  cases f1
  obtain ⟨w, g1, g2⟩ := atI_dt f5 ha
  exact ⟨p, ys, k, w, rfl, q1.inv_int, SqL.of f4, g1, kk w B1 H1 e1 E1 g2⟩
theorem DtAll.set {B : Hp} {v : V} {d : PyData} (h : Dt B v d) : ∀ {vs : List V} {ds : List PyData} (n : Nat), DtAll B vs ds → DtAll B (vs.set n v) (ds.set n d)
  | _, _, _, .nil => .nil
  | _, _, 0, .cons _ q => .cons h q
  | _, _, n + 1, .cons h' q => .cons h' (DtAll.set h n q)
/-- own[k] = e -/
theorem ss_setOwn {qa : Option Addr} {k : Int} {n : Nat} (h : EE T te ρ d ρ1) (hi : ρ1[i]? = some (.own qa es)) (hb : EE T tb ρ1 (.int k) ρ1) (hn : ixN es.length k = some n) : SS T X (tAsg te (gSub (tVar i) tb rSetL)) ρ (.nx (ρ1.set i (.own qa (es.set n d)))) := fun F W D B H σ E kk =>
  h F W B H σ _ E fun v B1 H1 e1 E1 q1 => by
    obtain ⟨p, xs, h1, h2, h3, h4, h5⟩ := E1.own hi
    refine ⟨_, h1, hb F W B1 H1 σ _ E1 fun w B2 H2 e2 E2 q2 => ?_⟩
    obtain ⟨p', ys, f1, f2, f3, f4, f5⟩ := E2.own hi
    rw [h1] at f1
    cases f1
    exact ⟨p, ys, k, n, rfl, q2.inv_int, f4, by rw [f5.length]; exact hn, kk σ B2 _ (e1.trans e2) (E2.write hi h1 (f5.set (q1.mono e2) n))⟩

/-! ### for -/
def TurnD (T : TL) (X : XK) (g : TG) (t : TS) (d : PyData) (ρ : List Sl) (o : Out) : Prop := ∃ ρ', EG T g d ρ ρ' ∧ SS T X t ρ' o
theorem ForR.all {P : PyData → List Sl → Out → Prop} : ∀ {ds : List PyData} {st : Nat → List Sl}, (∀ i d, ds[i]? = some d → P d (st i) (.nx (st (i + 1)))) → ForR P ds (st 0) (.nx (st ds.length))
  | [], st, _ => .nil
  | d :: ds, st, h => .next (h 0 d rfl) (ForR.all (st := fun i => st (i + 1)) fun i e he => h (i + 1) e (by simpa using he))
theorem turn_post {F : Hp} {W : Addr → Prop} {D : Ends} {B : Hp} {Pv : Sigma → Hp → Prop} (h : ∀ C ρ', o ≠ .ex C ρ' ∨ True) (hn : ∀ ρ', o = .nx ρ' → ∀ σ' B' H', Ex B B' → Env T F W B' H' σ' ρ' → Pv σ' H') (hp : (∀ ρ', o ≠ .nx ρ') → Post T X F W D B o) :
    Post T X F W { D with nx := Pv, ct := Pv, bk := D.nx } B o := by
  cases o with
  | nx ρ' => exact hn ρ' rfl
  | rt d ρ' => exact hp (fun _ z => by cases z)
  | ex C ρ' => exact hp (fun _ z => by cases z)
/-- one turn of any loop over data -/
theorem for_step {F : Hp} {W : Addr → Prop} {D : Ends} {B1 : Hp} {ds : List PyData} (k : Post T X F W D B1 o) {i : Nat} {σ : Sigma} {H : Hp} {v : V} {d : PyData} (hi : ds[i]? = some d)
    {B' : Hp} {ρi : List Sl} (e : Ex B1 B') (E : Env T F W B' H σ ρi) (q : Dt B' v d) (R : ForR (TurnD T X g t) (ds.drop i) ρi o) :
    g v σ H fun σ2 H2 => t { D with nx := fun σ H => ∃ B' ρi, Ex B1 B' ∧ Env T F W B' H σ ρi ∧ ForR (TurnD T X g t) (ds.drop (i + 1)) ρi o, ct := fun σ H => ∃ B' ρi, Ex B1 B' ∧ Env T F W B' H σ ρi ∧ ForR (TurnD T X g t) (ds.drop (i + 1)) ρi o, bk := D.nx } σ2 H2 := by
  have hl : i < ds.length := (List.getElem?_eq_some_iff.mp hi).1
  have hd : ds.drop i = d :: ds.drop (i + 1) := by
    rw [List.drop_eq_getElem_cons hl]
    congr 1
    exact (List.getElem?_eq_some_iff.mp hi).2
  rw [hd] at R
  cases R with
  | next p r =>
    obtain ⟨ρ', hg, hs⟩ := p
    exact hg F W B' H σ v _ E q fun σ2 E2 => hs F W _ B' H σ2 E2 fun σ' B2 H2 e2 E3 => ⟨B2, _, e.trans e2, E3, r⟩
  | stop p =>
    obtain ⟨ρ', hg, hs⟩ := p
    exact hg F W B' H σ v _ E q fun σ2 E2 => hs F W _ B' H σ2 E2 fun w σ' B2 H2 e2 E3 q3 => k w σ' B2 H2 (e.trans e2) E3 q3
  | exc p =>
    obtain ⟨ρ', hg, hs⟩ := p
    exact hg F W B' H σ v _ E q fun σ2 E2 => hs F W _ B' H σ2 E2 fun σ' B2 H2 e2 E3 => k σ' B2 H2 (e.trans e2) E3
theorem for_end {F : Hp} {W : Addr → Prop} {D : Ends} {B1 : Hp} {ds : List PyData} (k : Post T X F W D B1 o) {n : Nat} (hn : ds.length ≤ n) {σ : Sigma} {H : Hp} (h : ∃ B' ρi, Ex B1 B' ∧ Env T F W B' H σ ρi ∧ ForR (TurnD T X g t) (ds.drop n) ρi o) : D.nx σ H := by
  obtain ⟨B', ρi, e, E, R⟩ := h
  rw [List.drop_eq_nil_of_le hn] at R
  cases R
  exact k σ B' H e E
theorem ss_forT (h : EE T te ρ (.tuple ds) ρ1) (R : ForR (TurnD T X g t) ds ρ1 o) : SS T X (tFor (iTup K te) g t) ρ o := fun F W D B H σ E k =>
  h F W B H σ _ E fun v B1 H1 e1 E1 q1 => by
    obtain ⟨a, xs, f1, f2, q⟩ := q1.inv_tup
    have k1 := k.le e1
    refine ⟨a, f1, ⟨xs, SqT.of (E1.bh _ _ f2)⟩, for_tup (xs := xs) (fun i σ H => ∃ B' ρi, Ex B1 B' ∧ Env T F W B' H σ ρi ∧ ForR (TurnD T X g t) (ds.drop i) ρi o) ⟨B1, ρ1, Ex.refl _, E1, R⟩ (fun i σ H _ ⟨B', ρi, e, E, _⟩ => SqT.of (E.bh _ _ (e _ _ f2))) (fun i x σ H hx ⟨B', ρi, e, E, R⟩ => ?_) (fun σ H h => for_end k1 (by rw [q.length]; exact Nat.le_refl _) h)⟩
    obtain ⟨d, hd, qd⟩ := q.getV hx
    exact for_step k1 hd e E (qd.mono e) R
theorem ss_forL (h : EE T te ρ (.list ds) ρ1) (R : ForR (TurnD T X g t) ds ρ1 o) : SS T X (tFor (iList K te) g t) ρ o := fun F W D B H σ E k =>
  h F W B H σ _ E fun v B1 H1 e1 E1 q1 => by
    obtain ⟨a, xs, f1, f2, q⟩ := q1.inv_lst
    have k1 := k.le e1
    refine ⟨a, f1, ⟨xs, SqL.of (E1.bh _ _ f2)⟩, for_list (xs := xs) (fun i σ H => ∃ B' ρi, Ex B1 B' ∧ Env T F W B' H σ ρi ∧ ForR (TurnD T X g t) (ds.drop i) ρi o) ⟨B1, ρ1, Ex.refl _, E1, R⟩ (fun i σ H _ ⟨B', ρi, e, E, _⟩ => SqL.of (E.bh _ _ (e _ _ f2))) (fun i x σ H hx ⟨B', ρi, e, E, R⟩ => ?_) (fun σ H h => for_end k1 (by rw [q.length]; exact Nat.le_refl _) h)⟩
    obtain ⟨d, hd, qd⟩ := q.getV hx
    exact for_step k1 hd e E (qd.mono e) R
def rng (lo : Int) (n : Nat) : List PyData := (List.range n).map fun (i : Nat) => .int (lo + (i : Int))
theorem rng_get {lo : Int} {n i : Nat} (h : i < n) : (rng lo n)[i]? = some (.int (lo + (i : Int))) := by
  unfold rng
  rw [List.getElem?_map, List.getElem?_range h]
  rfl
theorem rng_len (lo : Int) (n : Nat) : (rng lo n).length = n := by unfold rng; rw [List.length_map, List.length_range]
theorem ss_forR1 {ta : TA} {n : Int} (h : EA T ta ρ [.int n] ρ1) (hn : -100000 ≤ n ∧ n ≤ 100000) (R : ForR (TurnD T X g t) (rng 0 n.toNat) ρ1 o) : SS T X (tFor (iRng1 ta) g t) ρ o := fun F W D B H σ E k =>
  h F W B H σ _ E fun vs B1 H1 e1 E1 q1 => by
    have k1 := k.le e1
    have ev : vs = [.int n] := by cases q1 with | cons q1 q2 => cases q2; rw [q1.inv_int]
    refine ⟨n, ev, by omega, by omega, for_range (lo := 0) (n := n.toNat) (fun i σ H => ∃ B' ρi, Ex B1 B' ∧ Env T F W B' H σ ρi ∧ ForR (TurnD T X g t) ((rng 0 n.toNat).drop i) ρi o) ⟨B1, ρ1, Ex.refl _, E1, R⟩ (fun i σ H hi ⟨B', ρi, e, E, R⟩ => ?_) (fun σ H h => for_end k1 (by rw [rng_len]; exact Nat.le_refl _) h)⟩
    exact for_step k1 (rng_get hi) e E (.int _) R
theorem ss_forR2 {ta : TA} {lo n : Int} (h : EA T ta ρ [.int lo, .int n] ρ1) (hl : -100000 ≤ lo ∧ lo ≤ 100000) (hn : -100000 ≤ n ∧ n ≤ 100000) (R : ForR (TurnD T X g t) (rng lo (n - lo).toNat) ρ1 o) : SS T X (tFor (iRng2 ta) g t) ρ o := fun F W D B H σ E k =>
  h F W B H σ _ E fun vs B1 H1 e1 E1 q1 => by
    have k1 := k.le e1
    have ev : vs = [.int lo, .int n] := by cases q1 with | cons q1 q2 => cases q2 with | cons q2 q3 => cases q3; rw [q1.inv_int, q2.inv_int]
    refine ⟨lo, n, ev, ⟨by omega, by omega, by omega, by omega⟩, for_range (lo := lo) (n := (n - lo).toNat) (fun i σ H => ∃ B' ρi, Ex B1 B' ∧ Env T F W B' H σ ρi ∧ ForR (TurnD T X g t) ((rng lo (n - lo).toNat).drop i) ρi o) ⟨B1, ρ1, Ex.refl _, E1, R⟩ (fun i σ H hi ⟨B', ρi, e, E, R⟩ => ?_) (fun σ H h => for_end k1 (by rw [rng_len]; exact Nat.le_refl _) h)⟩
    exact for_step k1 (rng_get hi) e E (.int _) R
end

/-! ### comprehensions -/
def wipeS (ρ : List Sl) : List Nat → List Sl
  | [] => ρ
  | v :: vs => (wipeS ρ vs).set v .no
theorem wipeS_len (ρ : List Sl) : ∀ vs, (wipeS ρ vs).length = ρ.length
  | [] => rfl
  | v :: vs => by unfold wipeS; rw [List.length_set, wipeS_len ρ vs]
theorem wipeS_get {ρ : List Sl} {i : Nat} {s : Sl} : ∀ {vs : List Nat}, (wipeS ρ vs)[i]? = some s → s = .no ∨ (i ∉ vs ∧ ρ[i]? = some s)
  | [], h => .inr ⟨by simp, h⟩
  | v :: vs, h => by
    unfold wipeS at h
    by_cases hi : v = i
    · subst hi
      by_cases hv : v < (wipeS ρ vs).length
      · rw [List.getElem?_set_self hv] at h; cases h; exact .inl rfl
      · rw [List.getElem?_eq_none (by simpa using hv)] at h; cases h
    · rw [List.getElem?_set_ne hi] at h
      rcases wipeS_get h with h1 | ⟨h1, h2⟩
      · exact .inl h1
      · exact .inr ⟨by simp only [List.mem_cons, not_or]; exact ⟨fun e => hi e.symm, h1⟩, h2⟩
theorem wipe_get {σ : Sigma} {i : Nat} : ∀ {vs : List Nat}, i ∉ vs → (wipe σ vs)[i]? = σ[i]? := fun h => wipe_out h
section
variable {T : TL} {F : Hp} {W : Addr → Prop} {B H B' H' : Hp} {σ σ2 : Sigma} {ρ ρ' ρ2 : List Sl}
theorem Env.wipe {vs : List Nat} (E : Env T F W B H σ ρ) : Env T F W B H (L2.wipe σ vs) (wipeS ρ vs) where
  fh := E.fh
  bh := E.bh
  wf := E.wf
  wb := E.wb
  tb := E.tb
  ft := E.ft
  bt := E.bt
  ln := by rw [wipe_length, wipeS_len]; exact E.ln
  sl := fun j s hs => by
    rcases wipeS_get hs with h | ⟨h1, h2⟩
    · subst h
      have hl : j < (L2.wipe σ vs).length := by rw [wipe_length, E.ln, ← wipeS_len ρ vs]; exact (List.getElem?_eq_some_iff.mp hs).1
      exact ⟨_, List.getElem?_eq_getElem hl, trivial⟩
    · rw [wipe_out h1]; exact E.sl j s h2
  ne := fun a b p q q' ds es hab ha hb => by
    rcases wipeS_get ha with h | ⟨h1, h2⟩
    · cases h
    · rcases wipeS_get hb with h' | ⟨h1', h2'⟩
      · cases h'
      · rw [wipe_out h1, wipe_out h1']; exact E.ne a b p q q' ds es hab h2 h2'
/-- what may change: own lists, objects -/
def Mu : Sl → Prop
  | .own _ _ => True
  | .obj _ _ _ => True
  | _ => False
theorem mu_ne {o : Option Sl} (h : ∀ qa ds, o ≠ some (.own qa ds)) (h' : ∀ p C st, o ≠ some (.obj p C st)) : ∀ s, Mu s → o ≠ some s := fun s hm => by
  cases s with
  | own qa ds => exact h qa ds
  | obj p C st => exact h' p C st
  | no => exact hm.elim
  | dat d => exact hm.elim
  | is k => exact hm.elim
/-- back from a block to the names around it -/
theorem Env.back (E : Env T F W B H σ ρ) (e : Ex B B') (E2 : Env T F W B' H' σ2 ρ2) (hl : ρ'.length = ρ.length) (ho : ∀ (i : Nat) s, Mu s → ρ'[i]? = some s → ρ2[i]? = some s ∧ σ2[i]? = σ[i]?) (hd : (∀ (i : Nat) d, ρ'[i]? = some (.dat d) → ρ[i]? = some (.dat d)) ∧ ∀ (i : Nat) v, ρ'[i]? = some (.is v) → ρ[i]? = some (.is v)) : Env T F W B' H' σ ρ' where
  fh := E2.fh
  bh := E2.bh
  wf := E2.wf
  wb := E2.wb
  tb := E2.tb
  ft := E2.ft
  bt := E2.bt
  ln := E.ln.trans hl.symm
  sl := fun j s hs => by
    cases s with
    | no =>
      have hl' : j < σ.length := by rw [E.ln, ← hl]; exact (List.getElem?_eq_some_iff.mp hs).1
      exact ⟨_, List.getElem?_eq_getElem hl', trivial⟩
    | dat d =>
      obtain ⟨v, h1, h2⟩ := E.dat (hd.1 j d hs)
      exact ⟨_, h1, v, rfl, h2.mono e⟩
    | own qa ds =>
      obtain ⟨h1, h2⟩ := ho j (.own qa ds) trivial hs
      rw [← h2]
      exact E2.sl j _ h1
    | obj p C st =>
      obtain ⟨h1, h2⟩ := ho j (.obj p C st) trivial hs
      rw [← h2]
      exact E2.sl j _ h1
    | is k =>
      obtain ⟨o, h1, h2⟩ := E.sl j _ (hd.2 j k hs)
      exact ⟨o, h1, k.mono e h2⟩
  ne := fun a b p q q' ds es hab ha hb => by
    obtain ⟨h1, h2⟩ := ho a (.own q ds) trivial ha
    obtain ⟨h3, h4⟩ := ho b (.own q' es) trivial hb
    rw [← h2, ← h4]
    exact E2.ne a b p q q' ds es hab h1 h3
end
/-- one turn of a comprehension: outer names ρ to ρ'; gives what is added -/
def LcT (T : TL) (g : TG) (tt : TT) (te : TE) (vs : List Nat) (d : PyData) (ρ : List Sl) (es : List PyData) (ρ' : List Sl) : Prop :=
  ρ'.length = ρ.length ∧ ((∀ (i : Nat) d, ρ'[i]? = some (.dat d) → ρ[i]? = some (.dat d)) ∧ ∀ (i : Nat) v, ρ'[i]? = some (.is v) → ρ[i]? = some (.is v)) ∧ (∀ (i : Nat) s, Mu s → ρ'[i]? = some s → i ∉ vs) ∧
  (∀ (σ : Sigma) H (v : V) (Q Q' : Sigma → Hp → Prop), g v (wipe σ vs) H Q → (∀ σ2 H2, (∀ i, i ∉ vs → σ2[i]? = σ[i]?) → wipe σ2 vs = wipe σ vs → Q σ2 H2 → Q' σ2 H2) → g v (wipe σ vs) H Q') ∧
  ∃ ρa b ρb, EG T g d (wipeS ρ vs) ρa ∧ ET T tt ρa b ρb ∧ ((b = false ∧ es = [] ∧ (∀ (i : Nat) s, Mu s → ρ'[i]? = some s → ρb[i]? = some s)) ∨
    (b = true ∧ ∃ e ρc, es = [e] ∧ EE T te ρb e ρc ∧ (∀ (i : Nat) s, Mu s → ρ'[i]? = some s → ρc[i]? = some s)))
inductive LcR (P : PyData → List Sl → List PyData → List Sl → Prop) : List PyData → List Sl → List PyData → List Sl → Prop
  | nil {ρ} : LcR P [] ρ [] ρ
  | cons {d ds ρ es ρ1 fs ρ2} : P d ρ es ρ1 → LcR P ds ρ1 fs ρ2 → LcR P (d :: ds) ρ (es ++ fs) ρ2
section
variable {T : TL} {te : TE} {tt : TT} {ρ ρ1 ρ2 ρ3 : List Sl} {d x y z : PyData} {ds es fs : List PyData} {g : TG} {vs : List Nat} {K : PySem.W.Frag} {i j : Nat}
/-- the state of a comprehension in turn i: es the list so far, rest to come -/
def LcI (T : TL) (g : TG) (tt : TT) (te : TE) (vs : List Nat) (F : Hp) (W : Addr → Prop) (B1 : Hp) (σ : Sigma) (D : Addr) (ds es : List PyData) (ρ' : List Sl) (n : Nat) (H : Hp) : Prop :=
  ∃ B' ρi xs acc rest, Ex B1 B' ∧ Env T F W B' H σ ρi ∧ B' D = none ∧ F D = none ∧ NotOwn σ ρi D ∧ H D = some (.lst xs) ∧ DtAll B' xs acc ∧ LcR (LcT T g tt te vs) (ds.drop n) ρi rest ρ' ∧ es = acc ++ rest
/-- the list at D put among the frame's things -/
theorem Env.hide {F : Hp} {W : Addr → Prop} {B H : Hp} {σ : Sigma} {ρ : List Sl} {D : Addr} {xs : List V} (E : Env T F W B H σ ρ) (h1 : B D = none) (h3 : H D = some (.lst xs)) (hn : NotOwn σ ρ D) : Env T (upd F D (.lst xs)) (fun p => W p ∨ p = D) B H σ ρ where
  fh := fun a o ha => by
    by_cases z : a = D
    · subst z; rw [upd_same] at ha; rw [h3]; exact ha
    · rw [upd_ne z] at ha; exact E.fh a o ha
  bh := E.bh
  wf := fun p hp => by
    by_cases z : p = D
    · subst z; rw [upd_same]; exact fun z => by cases z
    · rw [upd_ne z]; exact E.wf p (hp.resolve_right z)
  wb := fun p hp => by
    rcases hp with h | h
    · exact E.wb p h
    · rw [h]; exact h1
  tb := E.tb
  ft := fun hT p ps => by
    by_cases z : p = D
    · subst z; rw [upd_same]; exact fun z => by cases z
    · rw [upd_ne z]; exact E.ft hT p ps
  bt := E.bt
  ln := E.ln
  sl := fun j s hs => by
    obtain ⟨o, e1, e2⟩ := E.sl j s hs
    refine ⟨o, e1, ?_⟩
    cases s with
    | no => trivial
    | dat d => exact e2
    | is v => exact e2
    | obj r C st =>
      obtain ⟨e', k1, k2, dx, fs, k3, q'⟩ := e2
      exact ⟨e', k1, by rw [upd_ne (ne_of k3 h3 (fun z => by cases z))]; exact k2, dx, fs, k3, q'⟩
    | own qb es =>
      obtain ⟨r, ys, e', k1, k2, k3, q', qq⟩ := e2
      subst e'
      exact ⟨r, ys, rfl, k1, by rw [upd_ne (fun z => by subst z; exact hn j qb es hs e1)]; exact k2, k3, q', qq⟩
  ne := E.ne
theorem Env.unhide {F : Hp} {W : Addr → Prop} {B H : Hp} {σ : Sigma} {ρ : List Sl} {D : Addr} {xs : List V} (hF : F D = none) (E : Env T (upd F D (.lst xs)) (fun p => W p ∨ p = D) B H σ ρ) (wf : ∀ p, W p → F p ≠ none) (ft : T ≠ [] → ∀ p ps, F p ≠ some (.tbl ps)) : Env T F W B H σ ρ ∧ B D = none ∧ H D = some (.lst xs) ∧ NotOwn σ ρ D where
  left :=
    { fh := fun a o ha => E.fh a o (by rw [upd_ne (ne_of_none ha hF)]; exact ha)
      bh := E.bh
      wf := wf
      wb := fun p hp => E.wb p (.inl hp)
      tb := E.tb
      ft := ft
      bt := E.bt
      ln := E.ln
      sl := fun j s hs => by
        obtain ⟨o, e1, e2⟩ := E.sl j s hs
        refine ⟨o, e1, ?_⟩
        cases s with
        | no => trivial
        | dat d => exact e2
        | is v => exact e2
        | obj r C st =>
          obtain ⟨e', k1, k2, dx, fs, k3, q'⟩ := e2
          refine ⟨e', k1, ?_, dx, fs, k3, q'⟩
          by_cases z : r = D
          · rw [z]; exact hF
          · rw [upd_ne z] at k2; exact k2
        | own qb es =>
          obtain ⟨r, ys, e', k1, k2, k3, q', qq⟩ := e2
          subst e'
          refine ⟨r, ys, rfl, k1, ?_, k3, q', qq⟩
          by_cases z : r = D
          · rw [z]; exact hF
          · rw [upd_ne z] at k2; exact k2
      ne := E.ne }
  right := ⟨E.wb D (.inr rfl), E.fh D _ upd_same, fun j qb es hs e1 => by
    obtain ⟨p, ys, f1, f2, f3, _⟩ := E.own hs
    rw [e1] at f1
    cases f1
    rw [upd_same] at f3
    cases f3⟩
/-- a frame's own list is written that no name holds -/
theorem Env.other {F : Hp} {W : Addr → Prop} {B H : Hp} {σ : Sigma} {ρ : List Sl} {D : Addr} {xs ys : List V} (E : Env T F W B H σ ρ) (h1 : B D = none) (h2 : F D = none) (h3 : H D = some (.lst xs)) (hn : NotOwn σ ρ D) : Env T F W B (upd H D (.lst ys)) σ ρ where
  fh := fun a o ha => by rw [upd_ne (ne_of_none ha h2)]; exact E.fh a o ha
  bh := fun a o ha => by rw [upd_ne (ne_of_none ha h1)]; exact E.bh a o ha
  wf := E.wf
  wb := E.wb
  tb := fun t ht => by
    obtain ⟨ps, q1, q2, q3⟩ := E.tb t ht
    refine ⟨ps, ?_, q2, fun pos cv hc => ?_⟩
    · rw [upd_ne (ne_of q1 h3 (fun z => by cases z))]; exact q1
    · obtain ⟨c, e1, e2⟩ := q3 pos cv hc
      refine ⟨c, e1, ?_⟩
      rw [upd_ne (ne_of e2 h3 (fun z => by unfold LamX.CodeO at z; cases z))]; exact e2
  ft := E.ft
  bt := E.bt
  ln := E.ln
  sl := fun j s hs => by
    obtain ⟨o, e1, e2⟩ := E.sl j s hs
    refine ⟨o, e1, ?_⟩
    cases s with
    | no => trivial
    | dat d => exact e2
    | is v => exact e2
    | obj r C st =>
      obtain ⟨e', k1, k2, dx, fs, k3, q'⟩ := e2
      exact ⟨e', k1, k2, dx, fs, by rw [upd_ne (ne_of k3 h3 (fun z => by cases z))]; exact k3, q'⟩
    | own qb es =>
      obtain ⟨r, zs, e', k1, k2, k3, q', qq⟩ := e2
      subst e'
      exact ⟨r, zs, rfl, k1, k2, by rw [upd_ne (fun z => by subst z; exact hn j qb es hs e1)]; exact k3, q', qq⟩
  ne := E.ne
end
end DL
namespace DL
open PySem L2 PyProof.Rows
open Evl (Ex)
section
variable {T : TL} {te tl : TE} {tt : TT} {ρ ρ1 ρ2 ρ3 : List Sl} {d e x y z : PyData} {ds es fs : List PyData} {g : TG} {vs : List Nat} {K : PySem.W.Frag} {i j k q : Nat} {b : Bool}
theorem lc_turn {F : Hp} {W : Addr → Prop} {B1 : Hp} {σ : Sigma} {D : Addr} {ρ' : List Sl} {n : Nat} {H : Hp} {v : V} (hn : ds[n]? = some d) (hl : es.length ≤ 100000) (hv : ∀ B', Ex B1 B' → Dt B' v d)
    (I : LcI T g tt te vs F W B1 σ D ds es ρ' n H) :
    g v (wipe σ vs) H fun σ2 H2 => wipe σ2 vs = wipe σ vs ∧ tt σ2 H2 fun b H3 =>
      if b = true then te σ2 H3 fun y H4 => ∃ acc, H4 D = some (.lst acc) ∧ acc.length < sizeLine ∧ LcI T g tt te vs F W B1 σ D ds es ρ' (n + 1) (upd H4 D (.lst (acc ++ [y]))) else LcI T g tt te vs F W B1 σ D ds es ρ' (n + 1) H3 := by
  obtain ⟨B', ρi, xs, acc, rest, e1, E, h1, h2, h3, h4, h5, R, he⟩ := I
  have hlen : n < ds.length := (List.getElem?_eq_some_iff.mp hn).1
  have hd : ds.drop n = d :: ds.drop (n + 1) := by
    rw [List.drop_eq_getElem_cons hlen]
    congr 1
    exact (List.getElem?_eq_some_iff.mp hn).2
  rw [hd] at R
  generalize hdd : d :: ds.drop (n + 1) = dd at R
  cases R with
  | nil => cases hdd
  | cons P R' =>
    cases hdd
    rename_i es1 ρ1 fs1
    obtain ⟨l1, hdat, hown, hmon, ρa, b, ρb, hg, htt, hcase⟩ := P
    have Eh := (E.hide h1 h4 h3).wipe (vs := vs)
    refine hmon σ H v _ _ (hg _ _ B' H _ v (fun σ2 H2 => H2 = H ∧ Env T (upd F D (.lst xs)) (fun p => W p ∨ p = D) B' H σ2 ρa) Eh (hv B' e1) fun σ2 E2 => ⟨rfl, E2⟩) fun σ2 H2 hs hw q2 => ?_
    obtain ⟨rfl, E2⟩ := q2
    refine ⟨hw, htt _ _ B' _ σ2 _ E2 fun B2 H3 e2 E3 => ?_⟩
    have fin : ∀ {B3 H4 ρc}, Ex B' B3 → Env T (upd F D (.lst xs)) (fun p => W p ∨ p = D) B3 H4 σ2 ρc → (∀ (i : Nat) s, Mu s → ρ1[i]? = some s → ρc[i]? = some s) →
        Env T F W B3 H4 σ ρ1 ∧ B3 D = none ∧ H4 D = some (.lst xs) ∧ NotOwn σ ρ1 D := fun {B3 H4 ρc} e3 E4 ho => by
      obtain ⟨E5, k1, k2, k3⟩ := Env.unhide h2 E4 E.wf E.ft
      have own2 : ∀ (i : Nat) s, Mu s → ρ1[i]? = some s → ρc[i]? = some s ∧ σ2[i]? = σ[i]? := fun i s hm hi => ⟨ho i s hm hi, hs i (hown i s hm hi)⟩
      refine ⟨E.back e3 E5 l1 own2 hdat, k1, k2, fun i qa ds hi hσ => ?_⟩
      obtain ⟨a1, a2⟩ := own2 i (.own qa ds) trivial hi
      exact k3 i qa ds a1 (by rw [a2]; exact hσ)
    rcases hcase with ⟨hb, hes, ho⟩ | ⟨hb, e, ρc, hes, hte, ho⟩
    · subst hb hes
      show LcI T g tt te vs F W B1 σ D ds es ρ' (n + 1) H3
      obtain ⟨E5, k1, k2, k3⟩ := fin e2 E3 ho
      exact ⟨B2, ρ1, xs, acc, fs1, e1.trans e2, E5, k1, h2, k3, k2, h5.mono e2, R', by simpa using he⟩
    · subst hb hes
      show te σ2 H3 _
      refine hte _ _ B2 H3 σ2 _ E3 fun y B3 H4 e3 E4 qy => ?_
      obtain ⟨E5, k1, k2, k3⟩ := fin (e2.trans e3) E4 ho
      refine ⟨xs, k2, ?_, B3, ρ1, xs ++ [y], acc ++ [e], fs1, e1.trans (e2.trans e3), E5.other k1 h2 k2 k3, k1, h2, k3, upd_same, (h5.mono (e2.trans e3)).append (.one qy), R', by simpa using he⟩
      have : xs.length = acc.length := h5.length
      rw [he] at hl
      simp at hl
      exact sz_lt (by omega)
theorem lc_start {F : Hp} {W : Addr → Prop} {B1 H1 : Hp} {σ : Sigma} {D : Addr} (E : Env T F W B1 H1 σ ρ1) (hD : H1 D = none) (R : LcR (LcT T g tt te vs) ds ρ1 es ρ2) : LcI T g tt te vs F W B1 σ D ds es ρ2 0 (upd H1 D (.lst [])) :=
  ⟨B1, ρ1, [], [], es, Ex.refl _, E.grow (Grow.junk E.bh hD), Evl.fresh_back E.bh hD, Evl.fresh_back E.fh hD, E.notOwn hD, upd_same, .nil, R, rfl⟩
theorem lc_end {F : Hp} {W : Addr → Prop} {B B1 : Hp} {σ : Sigma} {D : Addr} {n : Nat} {H : Hp} {Q : VK} (e1 : Ex B B1) (hn : ds.length ≤ n) (k : ∀ p xs B' H', Ex B B' → Env T F W B' H' σ ρ2 → B' p = none → F p = none → H' p = some (.lst xs) → DtAll B' xs es → NotOwn σ ρ2 p → Q (.ref p) H')
    (I : LcI T g tt te vs F W B1 σ D ds es ρ2 n H) : Q (.ref D) H := by
  obtain ⟨B', ρi, xs, acc, rest, e2, E, h1, h2, h3, h4, h5, R, he⟩ := I
  rw [List.drop_eq_nil_of_le hn] at R
  cases R
  rw [List.append_nil] at he
  subst he
  exact k D xs B' H (e1.trans e2) E h1 h2 h4 h5 h3
theorem el_lcT (h : EE T tl ρ (.tuple ds) ρ1) (R : LcR (LcT T g tt te vs) ds ρ1 es ρ2) (hl : es.length ≤ 100000) : EL T (tLc (iTup K tl) g tt te vs) ρ es ρ2 := fun F W B H σ Q E k =>
  h F W B H σ _ E fun v B1 H1 e1 E1 q1 => by
    obtain ⟨a, xs, f1, f2, q⟩ := q1.inv_tup
    refine ⟨a, f1, ⟨xs, SqT.of (E1.bh _ _ f2)⟩, fun D hD => lc_tup (xs := xs) (LcI T g tt te vs F W B1 σ D ds es ρ2) (lc_start E1 hD R) (fun i H _ ⟨B', ρi, _, _, _, e, E, _⟩ => SqT.of (E.bh _ _ (e _ _ f2))) (fun i x H hx I => ?_) (fun H I => lc_end e1 (by rw [q.length]; exact Nat.le_refl _) k I)⟩
    obtain ⟨d, hd, qd⟩ := q.getV hx
    exact lc_turn hd hl (fun B' e => qd.mono e) I
theorem el_lcL (h : EE T tl ρ (.list ds) ρ1) (R : LcR (LcT T g tt te vs) ds ρ1 es ρ2) (hl : es.length ≤ 100000) : EL T (tLc (iList K tl) g tt te vs) ρ es ρ2 := fun F W B H σ Q E k =>
  h F W B H σ _ E fun v B1 H1 e1 E1 q1 => by
    obtain ⟨a, xs, f1, f2, q⟩ := q1.inv_lst
    refine ⟨a, f1, ⟨xs, SqL.of (E1.bh _ _ f2)⟩, fun D hD => lc_list (xs := xs) (LcI T g tt te vs F W B1 σ D ds es ρ2) (lc_start E1 hD R) (fun i H _ ⟨B', ρi, _, _, _, e, E, _⟩ => SqL.of (E.bh _ _ (e _ _ f2))) (fun i x H hx I => ?_) (fun H I => lc_end e1 (by rw [q.length]; exact Nat.le_refl _) k I)⟩
    obtain ⟨d, hd, qd⟩ := q.getV hx
    exact lc_turn hd hl (fun B' e => qd.mono e) I
theorem el_lcR1 {ta : TA} {n : Int} (h : EA T ta ρ [.int n] ρ1) (hn : -100000 ≤ n ∧ n ≤ 100000) (R : LcR (LcT T g tt te vs) (rng 0 n.toNat) ρ1 es ρ2) (hl : es.length ≤ 100000) : EL T (tLc (iRng1 ta) g tt te vs) ρ es ρ2 := fun F W B H σ Q E k =>
  h F W B H σ _ E fun us B1 H1 e1 E1 q1 => by
    have ev : us = [.int n] := by cases q1 with | cons q1 q2 => cases q2; rw [q1.inv_int]
    refine ⟨n, ev, by omega, by omega, fun D hD => lc_range (lo := 0) (n := n.toNat) (LcI T g tt te vs F W B1 σ D (rng 0 n.toNat) es ρ2) (lc_start E1 hD R) (fun i H hi I => ?_) (fun H I => lc_end e1 (by rw [rng_len]; exact Nat.le_refl _) k I)⟩
    exact lc_turn (rng_get hi) hl (fun B' e => .int _) I
theorem el_lcR2 {ta : TA} {lo n : Int} (h : EA T ta ρ [.int lo, .int n] ρ1) (hlo : -100000 ≤ lo ∧ lo ≤ 100000) (hn : -100000 ≤ n ∧ n ≤ 100000) (R : LcR (LcT T g tt te vs) (rng lo (n - lo).toNat) ρ1 es ρ2) (hl : es.length ≤ 100000) : EL T (tLc (iRng2 ta) g tt te vs) ρ es ρ2 := fun F W B H σ Q E k =>
  h F W B H σ _ E fun us B1 H1 e1 E1 q1 => by
    have ev : us = [.int lo, .int n] := by cases q1 with | cons q1 q2 => cases q2 with | cons q2 q3 => cases q3; rw [q1.inv_int, q2.inv_int]
    refine ⟨lo, n, ev, ⟨by omega, by omega, by omega, by omega⟩, fun D hD => lc_range (lo := lo) (n := (n - lo).toNat) (LcI T g tt te vs F W B1 σ D (rng lo (n - lo).toNat) es ρ2) (lc_start E1 hD R) (fun i H hi I => ?_) (fun H I => lc_end e1 (by rw [rng_len]; exact Nat.le_refl _) k I)⟩
    exact lc_turn (rng_get hi) hl (fun B' e => .int _) I
theorem et_yes : ET T tYes ρ true ρ := fun F W B H σ Q E k => k B H (Ex.refl _) E
/-- one turn, a name as target; an own list at q may change (q beyond the names: none) -/
theorem wipe1_set (σ : Sigma) (j : Nat) (v : V) : wipe ((wipe σ [j]).set j (some v)) [j] = wipe σ [j] := by
  show (((σ.set j none).set j (some v)).set j none) = σ.set j none
  rw [List.set_set, List.set_set]
theorem lc1s {qo : Option Addr} {c c' : List PyData} {ρb : List Sl} (hj : ∀ qa ds, ρ[j]? ≠ some (.own qa ds)) (hq : q ≠ j) (hc : ρ[q]? = some (.own qo c)) (ht : ET T tt (ρ.set j (.dat d)) b ρb)
    (h0 : b = false → ρb = (ρ.set j (.dat d)).set q (.own qo c')) (h1 : b = true → EE T te ρb e ((ρ.set j (.dat d)).set q (.own qo c'))) (hj' : ∀ p C st, ρ[j]? ≠ some (.obj p C st) := by intro _ _ _ h; cases h) : LcT T (gName j) tt te [j] d ρ (if b then [e] else []) (ρ.set q (.own qo c')) := by
  have hjm := mu_ne hj hj'
  have hql : q < ρ.length := (List.getElem?_eq_some_iff.mp hc).1
  have own : ∀ (i : Nat) s, Mu s → (ρ.set q (.own qo c'))[i]? = some s → ((ρ.set j (.dat d)).set q (.own qo c'))[i]? = some s := fun i s hm hi => by
    by_cases hiq : q = i
    · subst hiq
      rw [List.getElem?_set_self hql] at hi
      rw [List.getElem?_set_self (by rw [List.length_set]; exact hql)]
      exact hi
    · rw [List.getElem?_set_ne hiq] at hi ⊢
      have : j ≠ i := fun z => by subst z; exact hjm s hm hi
      rw [List.getElem?_set_ne this]
      exact hi
  refine ⟨List.length_set, ⟨fun i d' hi => ?_, fun i d' hi => ?_⟩, fun i s hm hi => ?_, fun σ H v Q Q' h1 h2 => h2 _ _ (fun i hi => ?_) (wipe1_set σ j v) h1, ρ.set j (.dat d), b, ρb, ?_, ht, ?_⟩
  · by_cases hiq : q = i
    · subst hiq; rw [List.getElem?_set_self hql] at hi; cases hi
    · rw [List.getElem?_set_ne hiq] at hi; exact hi
  · by_cases hiq : q = i
    · subst hiq; rw [List.getElem?_set_self hql] at hi; cases hi
    · rw [List.getElem?_set_ne hiq] at hi; exact hi
  · by_cases hiq : q = i
    · subst hiq; simpa using hq
    · rw [List.getElem?_set_ne hiq] at hi
      simp only [List.mem_cons, List.not_mem_nil, or_false]
      rintro rfl
      exact hjm s hm hi
  · have hij : j ≠ i := fun z => hi (by simp [z])
    show ((σ.set j none).set j (some v))[i]? = σ[i]?
    rw [List.getElem?_set_ne hij, List.getElem?_set_ne hij]
  · have e1 : (wipeS ρ [j]).set j (.dat d) = ρ.set j (.dat d) := by
      show (ρ.set j .no).set j (.dat d) = _
      rw [List.set_set]
    rw [← e1]
    exact eg_name
  · cases b with
    | true => exact .inr ⟨rfl, e, _, rfl, h1 rfl, own⟩
    | false => exact .inl ⟨rfl, rfl, by rw [h0 rfl]; exact own⟩
theorem lc1 (hj : ∀ qa ds, ρ[j]? ≠ some (.own qa ds)) (ht : ET T tt (ρ.set j (.dat d)) b (ρ.set j (.dat d))) (h1 : b = true → EE T te (ρ.set j (.dat d)) e (ρ.set j (.dat d))) (hj' : ∀ p C st, ρ[j]? ≠ some (.obj p C st) := by intro _ _ _ h; cases h) : LcT T (gName j) tt te [j] d ρ (if b then [e] else []) ρ := by
  have hjm := mu_ne hj hj'
  have own : ∀ (i : Nat) s, Mu s → ρ[i]? = some s → (ρ.set j (.dat d))[i]? = some s := fun i s hm hi => by
    have : j ≠ i := fun z => by subst z; exact hjm s hm hi
    rw [List.getElem?_set_ne this]
    exact hi
  refine ⟨rfl, ⟨fun i d' hi => hi, fun i d' hi => hi⟩, fun i s hm hi => ?_, fun σ H v Q Q' h1 h2 => h2 _ _ (fun i hi => ?_) (wipe1_set σ j v) h1, ρ.set j (.dat d), b, _, ?_, ht, ?_⟩
  · simp only [List.mem_cons, List.not_mem_nil, or_false]
    rintro rfl
    exact hjm s hm hi
  · have hij : j ≠ i := fun z => hi (by simp [z])
    show ((σ.set j none).set j (some v))[i]? = σ[i]?
    rw [List.getElem?_set_ne hij, List.getElem?_set_ne hij]
  · have e1 : (wipeS ρ [j]).set j (.dat d) = ρ.set j (.dat d) := by
      show (ρ.set j .no).set j (.dat d) = _
      rw [List.set_set]
    rw [← e1]
    exact eg_name
  · cases b with
    | true => exact .inr ⟨rfl, e, _, rfl, h1 rfl, own⟩
    | false => exact .inl ⟨rfl, rfl, own⟩
theorem lc1m (hj : ∀ qa ds, ρ[j]? ≠ some (.own qa ds)) (h1 : EE T te (ρ.set j (.dat d)) e (ρ.set j (.dat d))) (hj' : ∀ p C st, ρ[j]? ≠ some (.obj p C st) := by intro _ _ _ h; cases h) : LcT T (gName j) tYes te [j] d ρ [e] ρ := lc1 (b := true) hj et_yes (fun _ => h1) hj'
/-- .. a pair of names -/
theorem lc2 (hjk : j ≠ k) (hj : ∀ qa ds, ρ[j]? ≠ some (.own qa ds)) (hk : ∀ qa ds, ρ[k]? ≠ some (.own qa ds)) (ht : ET T tt ((ρ.set j (.dat x)).set k (.dat y)) b ((ρ.set j (.dat x)).set k (.dat y))) (h1 : b = true → EE T te ((ρ.set j (.dat x)).set k (.dat y)) e ((ρ.set j (.dat x)).set k (.dat y))) (hj' : ∀ p C st, ρ[j]? ≠ some (.obj p C st) := by intro _ _ _ h; cases h) (hk' : ∀ p C st, ρ[k]? ≠ some (.obj p C st) := by intro _ _ _ h; cases h) :
    LcT T (gTup K 2 (gCons (gName j) (gCons (gName k) gNil))) tt te [j, k] (.tuple [x, y]) ρ (if b then [e] else []) ρ := by
  have hjm := mu_ne hj hj'
  have hkm := mu_ne hk hk'
  have own : ∀ (i : Nat) s, Mu s → ρ[i]? = some s → ((ρ.set j (.dat x)).set k (.dat y))[i]? = some s := fun i s hm hi => by
    have n1 : j ≠ i := fun z => by subst z; exact hjm s hm hi
    have n2 : k ≠ i := fun z => by subst z; exact hkm s hm hi
    rw [List.getElem?_set_ne n2, List.getElem?_set_ne n1]
    exact hi
  refine ⟨rfl, ⟨fun i d' hi => hi, fun i d' hi => hi⟩, fun i s hm hi => ?_, fun σ H v Q Q' h1 h2 => ?_, (ρ.set j (.dat x)).set k (.dat y), b, _, ?_, ht, ?_⟩
  · simp only [List.mem_cons, List.not_mem_nil, or_false, not_or]
    exact ⟨fun z => by subst z; exact hjm s hm hi, fun z => by subst z; exact hkm s hm hi⟩
  · obtain ⟨a, xs, e1, e2, e3, v1, r1, e4, v2, r2, e5, e6, q⟩ := h1
    refine ⟨a, xs, e1, e2, e3, v1, r1, e4, v2, r2, e5, e6, h2 _ _ (fun i hi => ?_) ?_ q⟩
    · simp only [List.mem_cons, List.not_mem_nil, or_false, not_or] at hi
      show ((((σ.set k none).set j none).set j (some v1)).set k (some v2))[i]? = σ[i]?
      rw [List.getElem?_set_ne (Ne.symm hi.2), List.getElem?_set_ne (Ne.symm hi.1), List.getElem?_set_ne (Ne.symm hi.1), List.getElem?_set_ne (Ne.symm hi.2)]
    · show ((((((σ.set k none).set j none).set j (some v1)).set k (some v2)).set k none).set j none) = (σ.set k none).set j none
      rw [List.set_set, List.set_set, List.set_comm _ _ hjk, List.set_set, List.set_set]
  · have e1 : ((wipeS ρ [j, k]).set j (.dat x)).set k (.dat y) = (ρ.set j (.dat x)).set k (.dat y) := by
      show ((((ρ.set k .no).set j .no).set j (.dat x)).set k (.dat y)) = _
      rw [List.set_set, List.set_comm _ _ hjk, List.set_comm _ _ (Ne.symm hjk), List.set_comm _ _ (Ne.symm hjk), List.set_set]
    rw [← e1]
    exact eg_tup2
  · cases b with
    | true => exact .inr ⟨rfl, e, _, rfl, h1 rfl, own⟩
    | false => exact .inl ⟨rfl, rfl, own⟩
theorem lc2m (hjk : j ≠ k) (hj : ∀ qa ds, ρ[j]? ≠ some (.own qa ds)) (hk : ∀ qa ds, ρ[k]? ≠ some (.own qa ds)) (h1 : EE T te ((ρ.set j (.dat x)).set k (.dat y)) e ((ρ.set j (.dat x)).set k (.dat y))) (hj' : ∀ p C st, ρ[j]? ≠ some (.obj p C st) := by intro _ _ _ h; cases h) (hk' : ∀ p C st, ρ[k]? ≠ some (.obj p C st) := by intro _ _ _ h; cases h) :
    LcT T (gTup K 2 (gCons (gName j) (gCons (gName k) gNil))) tYes te [j, k] (.tuple [x, y]) ρ [e] ρ := lc2 (b := true) hjk hj hk et_yes (fun _ => h1) hj' hk'
end
/-- turns over a list of things, the names as they were -/
theorem lcr_filter {α : Type} {P : PyData → List Sl → List PyData → List Sl → Prop} {ρ : List Sl} (enc : α → PyData) (f : α → Bool) (v : α → PyData) : ∀ (xs : List α), (∀ x ∈ xs, P (enc x) ρ (if f x then [v x] else []) ρ) → LcR P (xs.map enc) ρ ((xs.filter f).map v) ρ
  | [], _ => .nil
  | x :: xs, h => by
    have r := lcr_filter enc f v xs fun y hy => h y (List.mem_cons_of_mem _ hy)
    have e : ((x :: xs).filter f).map v = (if f x then [v x] else []) ++ (xs.filter f).map v := by
      rw [List.filter_cons]
      cases f x <;> simp
    rw [e]
    exact .cons (h x List.mem_cons_self) r
theorem lcr_map {α : Type} {P : PyData → List Sl → List PyData → List Sl → Prop} {ρ : List Sl} (enc v : α → PyData) : ∀ (xs : List α), (∀ x ∈ xs, P (enc x) ρ [v x] ρ) → LcR P (xs.map enc) ρ (xs.map v) ρ
  | [], _ => .nil
  | x :: xs, h => .cons (es := [v x]) (h x List.mem_cons_self) (lcr_map enc v xs fun y hy => h y (List.mem_cons_of_mem _ hy))

/-! ### promises -/
inductive Res where
  | ok (d : PyData)
  | ex (C : Addr)
/-- a def of data alone -/
def spP (R : List PyData → Res → Prop) : Sp := fun vs H Q E => ∃ B ds r, Ex B H ∧ (∀ p ps, B p ≠ some (.tbl ps)) ∧ DtAll B vs ds ∧ R ds r ∧
  (match r with
    | .ok d => ∀ v B' H', Grow B H B' H' → Dt B' v d → Q v H'
    | .ex C => ∀ B' H', Grow B H B' H' → E (.ref C) none H')
/-- how a body's end answers -/
def Answers : Res → Out → Prop
  | .ok d, .rt d' _ => d = d'
  | .ok d, .nx _ => d = .none
  | .ex C, .ex C' _ => C = C'
  | _, _ => False
def slots (n : Nat) (ds : List PyData) : List Sl := ds.map Sl.dat ++ List.replicate (n - ds.length) .no
theorem start_env {N : List Str} {vs : List V} {ds : List PyData} {B H : Hp} (hB : Ex B H) (hb : ∀ p ps, B p ≠ some (.tbl ps)) (q : DtAll B vs ds) : Env [] H (fun p => H p ≠ none ∧ B p = none) B H (L2.start N vs) (slots N.length ds) where
  fh := Ex.refl _
  bh := hB
  wf := fun p hp => hp.1
  wb := fun p hp => hp.2
  tb := fun p hp => by cases hp
  ft := fun h => absurd rfl h
  bt := hb
  ln := by unfold L2.start slots; simp [q.length]
  sl := fun i s hs => by
    unfold slots at hs
    unfold L2.start
    by_cases hi : i < ds.length
    · rw [List.getElem?_append_left (by simpa using hi)] at hs
      rw [List.getElem?_append_left (by simpa [q.length] using hi)]
      rw [List.getElem?_map] at hs ⊢
      cases e : ds[i]? with
      | none => rw [e] at hs; cases hs
      | some d =>
        rw [e] at hs
        cases hs
        obtain ⟨v, h1, h2⟩ := q.get e
        exact ⟨some v, by rw [h1]; rfl, v, rfl, h2⟩
    · rw [List.getElem?_append_right (by simpa using hi)] at hs
      rw [List.getElem?_append_right (by simpa [q.length] using hi)]
      rw [List.getElem?_replicate] at hs ⊢
      simp only [List.length_map, q.length] at hs ⊢
      split at hs
      · rename_i h
        cases hs
        exact ⟨none, by rw [if_pos h], trivial⟩
      · cases hs
  ne := fun i j p q1 q2 es fs hij hi => by
    unfold slots at hi
    by_cases hl : i < ds.length
    · rw [List.getElem?_append_left (by simpa using hl), List.getElem?_map] at hi
      cases e : ds[i]? with
      | none => rw [e] at hi; cases hi
      | some d => rw [e] at hi; cases hi
    · rw [List.getElem?_append_right (by simpa using hl), List.getElem?_replicate] at hi
      split at hi <;> cases hi
theorem end_grow {B H B' H' : Hp} {σ : Sigma} {ρ : List Sl} (e : Ex B B') (E : Env [] H (fun p => H p ≠ none ∧ B p = none) B' H' σ ρ) : Grow B H B' H' :=
  ⟨e, E.bh, E.fh, fun p h1 h2 => E.wb p ⟨h2, h1⟩, fun _ => E.bt⟩
section
variable {P : Program} {w : World} {K : PySem.W.Frag} {mg : Str → Option Value} {base : Heap}
/-- a def that may raise, its exceptions of no context -/
theorem _root_.L2.Fun.okN {x qual : Str} {st : Stmt} {f : Addr} {fd : FuncData} {N ps : List Str} {k : Nat} {sp : Sp} (F : Fun K x qual st f fd) (S : FnScope N ps (defScope st)) (len : ∀ vs H Q E, sp vs H Q E → vs.length = ps.length)
    (hbody : ∀ (cdv : Value) (A : Around) (outer : List PySem.Env) (s : Shared) (H : Hp) (vs : List V) (Q : VK) (E : XK), Room k (A.deeper (envOfC qual (defScope st) s.heap.objs.size f cdv)) → sp vs H Q E →
      ∃ t, PSs (cxOf (L2N.CX P w) P w K mg base N qual (defScope st) f cdv A outer s H E) (defBody st) t ∧ t { nx := fun _ H' => Q .non H', rt := Q } (L2.start N vs) H) : FnOk P w K mg base (L2N.CX P w) (k + 1) f fd ps sp := by
  obtain ⟨oc, od, kV, doc, pm, an, cdv, ct, osl, e, lk, hcd⟩ := F.ex
  subst e
  exact fn_of lk hcd S len fun A outer s H vs Q E hr h => hbody cdv A outer s H vs Q E hr h
theorem passN {X : Cx} : Passes (L2N.CX X.prog X.w) X E0 := fun pins σ H s e s' I h => by
  obtain ⟨_, _, _, _, _, _, _, _, _, _, _, _, z⟩ := h
  exact z.elim
theorem takesN {X : Cx} {E : XK} (hs : X.stack = X.env :: X.outer) (hf : X.env.frame = some X.env.locals) (hex : X.ex = []) {E₁ : Value → Shared → Prop}
    (hx : X.xe = fun e s' => wpAny (model X.prog X.w) X.A (leaving X.env e) (fun _ s'' => L2N.CX X.prog X.w X.outer X.H_0 X.s_0 E e s'') E₁ s') : L2N.Takes X (fun cls d _ H => E cls d H) := L2N.takes_of hs hf hex hx
/-- THE RULE for a def of data -/
theorem fnP {x qual : Str} {st : Stmt} {f : Addr} {fd : FuncData} {N ps : List Str} {k : Nat} {R : List PyData → Res → Prop} (F : Fun K x qual st f fd) (S : FnScope N ps (defScope st)) (hl : ∀ ds r, R ds r → ds.length = ps.length)
    (hb : ∀ (cdv : Value) (A : Around) (outer : List PySem.Env) (s : Shared) (H : Hp) (E : XK), Room k (A.deeper (envOfC qual (defScope st) s.heap.objs.size f cdv)) →
      ∃ t, PSs (cxOf (L2N.CX P w) P w K mg base N qual (defScope st) f cdv A outer s H E) (defBody st) t ∧ ∀ ds r, R ds r → ∃ o, SS [] E t (slots N.length ds) o ∧ Answers r o) :
    FnOk P w K mg base (L2N.CX P w) (k + 1) f fd ps (spP R) := by
  refine F.okN S (fun vs H Q E h => ?_) (fun cdv A outer s H vs Q E hr h => ?_)
  · obtain ⟨B, ds, r, _, _, q, hR, _⟩ := h
    rw [q.length]; exact hl ds r hR
  · obtain ⟨t, ht, hs⟩ := hb cdv A outer s H E hr
    refine ⟨t, ht, ?_⟩
    obtain ⟨B, ds, r, hB, hbt, q, hR, k⟩ := h
    obtain ⟨o, ho, ha⟩ := hs ds r hR
    refine ho H _ _ B H _ (start_env hB hbt q) ?_
    cases r with
    | ok d =>
      cases o with
      | rt d' ρ' =>
        have e : d = d' := ha
        subst e
        exact fun v σ' B' H' e E' q' => k v B' H' (end_grow e E') q'
      | nx ρ' =>
        have e : d = .none := ha
        subst e
        exact fun σ' B' H' e E' => k .non B' H' (end_grow e E') .non
      | ex C ρ' => exact ha.elim
    | ex C =>
      cases o with
      | rt d' ρ' => exact ha.elim
      | nx ρ' => exact ha.elim
      | ex C' ρ' =>
        have e : C = C' := ha
        subst e
        exact fun σ' B' H' e E' => k B' H' (end_grow e E')
end
section
variable {T : TL} {X E : XK} {ρ ρ1 : List Sl} {d : PyData} {ds : List PyData} {ta : TA} {R : List PyData → Res → Prop} {C : Addr}
/-- a call that gives a datum -/
theorem ee_call (h : EA T ta ρ ds ρ1) (hR : R ds (.ok d)) : EE T (tCall (spP R) [] E ta) ρ d ρ1 := fun F W B H σ Q Ev k =>
  h F W B H σ _ Ev fun vs B1 H1 e1 E1 q1 => by
    show spP R (vs ++ []) H1 Q E
    rw [List.append_nil]
    exact ⟨B1, ds, .ok d, E1.bh, E1.bt, q1, hR, fun v B' H' g q => k v B' H' (e1.trans g.bb) (E1.grow g) q⟩
/-- a statement that is a call that raises -/
theorem ss_callX (h : EA T ta ρ ds ρ1) (hR : R ds (.ex C)) : SS T X (tDrop (tCall (spP R) [] X ta)) ρ (.ex C ρ1) := fun F W D B H σ Ev k =>
  h F W B H σ _ Ev fun vs B1 H1 e1 E1 q1 => by
    show spP R (vs ++ []) H1 _ X
    rw [List.append_nil]
    exact ⟨B1, ds, .ex C, E1.bh, E1.bt, q1, hR, fun B' H' g => k σ B' H' (e1.trans g.bb) (E1.grow g)⟩
/-- raise C('..') -/
theorem ss_raise {t : TS} (ht : ∀ D σ H, X (.ref C) none H → t D σ H) : SS T X t ρ (.ex C ρ) := fun F W D B H σ Ev k => ht D σ H (k σ B H (Ex.refl _) Ev)
end
end DL
namespace DL
open PySem L2
theorem lcr_data {P : PyData → List Sl → List PyData → List Sl → Prop} {ρ : List Sl} (v : PyData → PyData) : ∀ (xs : List PyData), (∀ x ∈ xs, P x ρ [v x] ρ) → LcR P xs ρ (xs.map v) ρ
  | [], _ => .nil
  | x :: xs, h => .cons (es := [v x]) (h x List.mem_cons_self) (lcr_data v xs fun y hy => h y (List.mem_cons_of_mem _ hy))
theorem lcr_bools {α : Type} {P : PyData → List Sl → List PyData → List Sl → Prop} {ρ : List Sl} (enc : α → PyData) (f : α → Bool) : ∀ (xs : List α), (∀ x ∈ xs, P (enc x) ρ [.bool (f x)] ρ) → LcR P (xs.map enc) ρ ((xs.map f).map PyData.bool) ρ
  | [], _ => .nil
  | x :: xs, h => .cons (es := [.bool (f x)]) (h x List.mem_cons_self) (lcr_bools enc f xs fun y hy => h y (List.mem_cons_of_mem _ hy))
theorem lcr_ints {α : Type} {P : PyData → List Sl → List PyData → List Sl → Prop} {ρ : List Sl} (enc : α → PyData) (f : α → Int) : ∀ (xs : List α), (∀ x ∈ xs, P (enc x) ρ [.int (f x)] ρ) → LcR P (xs.map enc) ρ ((xs.map f).map PyData.int) ρ
  | [], _ => .nil
  | x :: xs, h => .cons (es := [.int (f x)]) (h x List.mem_cons_self) (lcr_ints enc f xs fun y hy => h y (List.mem_cons_of_mem _ hy))
theorem lcr_dbools {P : PyData → List Sl → List PyData → List Sl → Prop} {ρ : List Sl} (f : PyData → Bool) : ∀ (xs : List PyData), (∀ x ∈ xs, P x ρ [.bool (f x)] ρ) → LcR P xs ρ ((xs.map f).map PyData.bool) ρ
  | [], _ => .nil
  | x :: xs, h => .cons (es := [.bool (f x)]) (h x List.mem_cons_self) (lcr_dbools f xs fun y hy => h y (List.mem_cons_of_mem _ hy))
end DL
namespace DL
open PySem L2 PyProof.Rows
open Evl (Ex)

/-! ### shapes and equality of data -/
mutual
/-- no bool, no dict, texts that are laid -/
def pl : PyData → Bool
  | .none => true
  | .int _ => true
  | .str x => PyData.strOk x
  | .list xs => plAll xs
  | .tuple xs => plAll xs
  | .bool _ => false
  | .dict _ => false
def plAll : List PyData → Bool
  | [] => true
  | x :: xs => pl x && plAll xs
end
mutual
theorem eqv_iff : ∀ (d e : PyData), pl d = true → pl e = true → (PyData.eqv d e = true ↔ d = e)
  | .none, e, _, h2 => by cases e <;> simp_all [PyData.eqv, pl]
  | .int i, e, _, h2 => by cases e <;> simp_all [PyData.eqv, pl]
  | .str x, e, _, h2 => by cases e <;> simp_all [PyData.eqv, pl]
  | .list xs, e, h1, h2 => by
    cases e with
    | list ys => simp only [PyData.eqv, PyData.list.injEq]; exact eqvAll_iff xs ys (by simpa [pl] using h1) (by simpa [pl] using h2)
    | _ => simp_all [PyData.eqv, pl]
  | .tuple xs, e, h1, h2 => by
    cases e with
    | tuple ys => simp only [PyData.eqv, PyData.tuple.injEq]; exact eqvAll_iff xs ys (by simpa [pl] using h1) (by simpa [pl] using h2)
    | _ => simp_all [PyData.eqv, pl]
  | .bool b, e, h1, _ => by simp [pl] at h1
  | .dict b, e, h1, _ => by simp [pl] at h1
theorem eqvAll_iff : ∀ (xs ys : List PyData), plAll xs = true → plAll ys = true → (PyData.eqvAll xs ys = true ↔ xs = ys)
  | [], [], _, _ => by simp [PyData.eqvAll]
  | [], y :: ys, _, _ => by simp [PyData.eqvAll]
  | x :: xs, [], _, _ => by simp [PyData.eqvAll]
  | x :: xs, y :: ys, h1, h2 => by
    simp only [plAll, Bool.and_eq_true] at h1 h2
    simp only [PyData.eqvAll, Bool.and_eq_true, List.cons.injEq]
    rw [eqv_iff x y h1.1 h2.1, eqvAll_iff xs ys h1.2 h2.2]
end
theorem eqv_ne {d e : PyData} (h1 : pl d = true) (h2 : pl e = true) (h : d ≠ e) : PyData.eqv d e = false := by
  cases q : PyData.eqv d e with
  | false => rfl
  | true => exact absurd ((eqv_iff d e h1 h2).mp q) h
theorem eqv_self {d : PyData} (h1 : pl d = true) : PyData.eqv d d = true := (eqv_iff d d h1 h1).mpr rfl
theorem eqv_dec {α : Type} [DecidableEq α] {f : α → PyData} (hf : ∀ a, pl (f a) = true) (inj : ∀ a b, f a = f b → a = b) (a b : α) : PyData.eqv (f a) (f b) = decide (a = b) := by
  by_cases h : a = b
  · subst h; rw [eqv_self (hf a)]; simp
  · rw [eqv_ne (hf a) (hf b) (fun z => h (inj a b z))]; simp [h]
/-- encodings -/
abbrev eP (p : Int × Int) : PyData := .tuple [.int p.1, .int p.2]
abbrev eT (ns : List Int) : PyData := .tuple (ns.map PyData.int)
abbrev eL (ns : List Int) : PyData := .list (ns.map PyData.int)
abbrev ePs (ps : List (Int × Int)) : PyData := .tuple (ps.map eP)
abbrev eW (w : Int × List (Int × Int)) : PyData := .tuple [.int w.1, ePs w.2]
theorem plAll_map {α : Type} {f : α → PyData} : ∀ (xs : List α), (∀ x ∈ xs, pl (f x) = true) → plAll (xs.map f) = true
  | [], _ => rfl
  | x :: xs, h => by
    show (pl (f x) && plAll (xs.map f)) = true
    rw [h x List.mem_cons_self, plAll_map xs fun y hy => h y (List.mem_cons_of_mem _ hy)]
    rfl
theorem pl_int (i : Int) : pl (.int i) = true := by simp [pl]
theorem pl_eT (ns : List Int) : pl (eT ns) = true := by show pl (.tuple _) = true; unfold pl; exact plAll_map ns fun _ _ => pl_int _
theorem pl_eL (ns : List Int) : pl (eL ns) = true := by show pl (.list _) = true; unfold pl; exact plAll_map ns fun _ _ => pl_int _
theorem pl_eP (p : Int × Int) : pl (eP p) = true := by simp [pl, plAll]
theorem pl_ePs (ps : List (Int × Int)) : pl (ePs ps) = true := by show pl (.tuple _) = true; unfold pl; exact plAll_map ps fun _ _ => pl_eP _
theorem pl_eW (w : Int × List (Int × Int)) : pl (eW w) = true := by
  have h := pl_ePs w.2
  unfold ePs at h
  simp only [eW, pl, plAll, ePs] at h ⊢
  simp [h]
mutual
theorem pl_can : ∀ d : PyData, pl d = true → PyData.canLay0 d = true
  | .none, _ => by simp [PyData.canLay0]
  | .int _, _ => by simp [PyData.canLay0]
  | .str x, h => by simpa [PyData.canLay0, pl] using h
  | .list xs, h => by simp only [PyData.canLay0]; exact plAll_can xs (by simpa [pl] using h)
  | .tuple xs, h => by simp only [PyData.canLay0]; exact plAll_can xs (by simpa [pl] using h)
  | .bool _, _ => by simp [PyData.canLay0]
  | .dict _, h => by simp [pl] at h
theorem plAll_can : ∀ ds : List PyData, plAll ds = true → PyData.canLayAll0 ds = true
  | [], _ => by simp [PyData.canLayAll0]
  | d :: ds, h => by
    simp only [plAll, Bool.and_eq_true] at h
    simp only [PyData.canLayAll0, Bool.and_eq_true]
    exact ⟨pl_can d h.1, plAll_can ds h.2⟩
end
theorem shaped_of {d : PyData} (h : pl d = true) (hd : d.depth ≤ 64) : SeqAt.shaped d = true := by
  unfold SeqAt.shaped
  rw [pl_can d h, decide_eq_true hd]
  rfl
theorem depthAll_map {α : Type} {f : α → PyData} {n : Nat} : ∀ (xs : List α), (∀ x ∈ xs, (f x).depth ≤ n) → PyData.depthAll (xs.map f) ≤ n
  | [], _ => by simp [PyData.depthAll]
  | x :: xs, h => by
    have h1 := h x List.mem_cons_self
    have h2 := depthAll_map xs fun y hy => h y (List.mem_cons_of_mem _ hy)
    simp only [List.map_cons, PyData.depthAll]
    omega
theorem dp_eT (ns : List Int) : (eT ns).depth ≤ 1 := by
  have := depthAll_map (f := PyData.int) (n := 0) ns (fun _ _ => by simp [PyData.depth])
  simp only [eT, PyData.depth]; omega
theorem dp_eL (ns : List Int) : (eL ns).depth ≤ 1 := by
  have := depthAll_map (f := PyData.int) (n := 0) ns (fun _ _ => by simp [PyData.depth])
  simp only [eL, PyData.depth]; omega
theorem dp_eP (p : Int × Int) : (eP p).depth ≤ 1 := by simp [PyData.depth, PyData.depthAll]
theorem dp_ePs (ps : List (Int × Int)) : (ePs ps).depth ≤ 2 := by
  have := depthAll_map (f := eP) (n := 1) ps (fun p _ => dp_eP p)
  simp only [ePs, PyData.depth]; omega
theorem sh_eT (ns : List Int) : SeqAt.shaped (eT ns) = true := shaped_of (pl_eT ns) (Nat.le_trans (dp_eT ns) (by decide))
theorem sh_eL (ns : List Int) : SeqAt.shaped (eL ns) = true := shaped_of (pl_eL ns) (Nat.le_trans (dp_eL ns) (by decide))
theorem sh_eP (p : Int × Int) : SeqAt.shaped (eP p) = true := shaped_of (pl_eP p) (Nat.le_trans (dp_eP p) (by decide))
theorem sh_ePs (ps : List (Int × Int)) : SeqAt.shaped (ePs ps) = true := shaped_of (pl_ePs ps) (Nat.le_trans (dp_ePs ps) (by decide))
theorem map_inj {α β : Type} {f : α → β} (inj : ∀ a b, f a = f b → a = b) : ∀ {xs ys : List α}, xs.map f = ys.map f → xs = ys
  | [], [], _ => rfl
  | [], _ :: _, h => by cases h
  | _ :: _, [], h => by cases h
  | x :: xs, y :: ys, h => by
    simp only [List.map_cons, List.cons.injEq] at h
    rw [inj x y h.1, map_inj inj h.2]
theorem int_inj (a b : Int) (h : PyData.int a = PyData.int b) : a = b := by cases h; rfl
theorem eT_inj {a b : List Int} (h : eT a = eT b) : a = b := map_inj int_inj (by simpa [eT] using h)
theorem eL_inj {a b : List Int} (h : eL a = eL b) : a = b := map_inj int_inj (by simpa [eL] using h)
theorem eP_inj (a b : Int × Int) (h : eP a = eP b) : a = b := by
  obtain ⟨a1, a2⟩ := a
  obtain ⟨b1, b2⟩ := b
  simp only [eP, PyData.tuple.injEq, List.cons.injEq, PyData.int.injEq, and_true] at h
  rw [h.1, h.2]
theorem ePs_inj {a b : List (Int × Int)} (h : ePs a = ePs b) : a = b := map_inj eP_inj (by simpa [ePs] using h)
theorem eqv_eT (a b : List Int) : PyData.eqv (eT a) (eT b) = decide (a = b) := eqv_dec (f := eT) pl_eT (fun _ _ => eT_inj) a b
theorem eqv_eL (a b : List Int) : PyData.eqv (eL a) (eL b) = decide (a = b) := eqv_dec (f := eL) pl_eL (fun _ _ => eL_inj) a b
theorem eqv_eP (a b : Int × Int) : PyData.eqv (eP a) (eP b) = decide (a = b) := eqv_dec (f := eP) pl_eP eP_inj a b
theorem eqv_ePs (a b : List (Int × Int)) : PyData.eqv (ePs a) (ePs b) = decide (a = b) := eqv_dec (f := ePs) pl_ePs (fun _ _ => ePs_inj) a b

/-! ### isinstance -/
def tyName : PyData → String
  | .none => "NoneType"
  | .bool _ => "bool"
  | .int _ => "int"
  | .str _ => "str"
  | .list _ => "list"
  | .tuple _ => "tuple"
  | .dict _ => "dict"
theorem tyX {K : PySem.W.Frag} {B H : Hp} {v : V} {d : PyData} (e : Ex B H) (h : Dt B v d) : TyX K H v (.type (tyName d)) := by
  cases h with
  | non => exact .base .non
  | bl b => exact .base (.bl b)
  | int i => exact .base (.int i)
  | str x => exact .base (.str x)
  | lst h _ => exact .base (.lst (e _ _ h))
  | tup h _ => exact .base (.tup (e _ _ h))
section
variable {T : TL} {te ta tb tc : TE} {ρ ρ1 ρ2 : List Sl} {d x y z : PyData} {ds es : List PyData} {K : PySem.W.Frag} {i j : Int}
theorem ee_isi {n : String} {b : Bool} (h : EE T te ρ d ρ1) (hk : kitB (tyName d) n = some b) : EE T (tCB (rIsi K) (tCons te (tCons (tC (.ty n)) tNil))) ρ (.bool b) ρ1 := fun F W B H σ Q E k =>
  h F W B H σ _ E fun v B1 H1 e1 E1 q1 => ⟨v, .ty n, .type (tyName d), .type n, b, rfl, .ty n, tyX E1.bh q1, kit_ty hk, k _ B1 H1 e1 E1 (.bl b)⟩
def isInt : PyData → Bool
  | .int _ => true
  | .bool _ => true
  | _ => false
def isBool : PyData → Bool
  | .bool _ => true
  | _ => false
def isTup : PyData → Bool
  | .tuple _ => true
  | _ => false
def isStr : PyData → Bool
  | .str _ => true
  | _ => false
theorem kit_int : ∀ (d : PyData), kitB (tyName d) "int" = some (isInt d)
  | .none => (by decide +kernel : kitB "NoneType" "int" = some false)
  | .bool _ => (by decide +kernel : kitB "bool" "int" = some true)
  | .int _ => (by decide +kernel : kitB "int" "int" = some true)
  | .str _ => (by decide +kernel : kitB "str" "int" = some false)
  | .list _ => (by decide +kernel : kitB "list" "int" = some false)
  | .tuple _ => (by decide +kernel : kitB "tuple" "int" = some false)
  | .dict _ => (by decide +kernel : kitB "dict" "int" = some false)
theorem kit_bool : ∀ (d : PyData), kitB (tyName d) "bool" = some (isBool d)
  | .none => (by decide +kernel : kitB "NoneType" "bool" = some false)
  | .bool _ => (by decide +kernel : kitB "bool" "bool" = some true)
  | .int _ => (by decide +kernel : kitB "int" "bool" = some false)
  | .str _ => (by decide +kernel : kitB "str" "bool" = some false)
  | .list _ => (by decide +kernel : kitB "list" "bool" = some false)
  | .tuple _ => (by decide +kernel : kitB "tuple" "bool" = some false)
  | .dict _ => (by decide +kernel : kitB "dict" "bool" = some false)
theorem kit_tup : ∀ (d : PyData), kitB (tyName d) "tuple" = some (isTup d)
  | .none => (by decide +kernel : kitB "NoneType" "tuple" = some false)
  | .bool _ => (by decide +kernel : kitB "bool" "tuple" = some false)
  | .int _ => (by decide +kernel : kitB "int" "tuple" = some false)
  | .str _ => (by decide +kernel : kitB "str" "tuple" = some false)
  | .list _ => (by decide +kernel : kitB "list" "tuple" = some false)
  | .tuple _ => (by decide +kernel : kitB "tuple" "tuple" = some true)
  | .dict _ => (by decide +kernel : kitB "dict" "tuple" = some false)
theorem kit_str : ∀ (d : PyData), kitB (tyName d) "str" = some (isStr d)
  | .none => (by decide +kernel : kitB "NoneType" "str" = some false)
  | .bool _ => (by decide +kernel : kitB "bool" "str" = some false)
  | .int _ => (by decide +kernel : kitB "int" "str" = some false)
  | .str _ => (by decide +kernel : kitB "str" "str" = some true)
  | .list _ => (by decide +kernel : kitB "list" "str" = some false)
  | .tuple _ => (by decide +kernel : kitB "tuple" "str" = some false)
  | .dict _ => (by decide +kernel : kitB "dict" "str" = some false)
theorem ee_isInt (h : EE T te ρ d ρ1) : EE T (tCB (rIsi K) (tCons te (tCons (tC (.ty "int")) tNil))) ρ (.bool (isInt d)) ρ1 := ee_isi h (kit_int d)
theorem ee_isBool (h : EE T te ρ d ρ1) : EE T (tCB (rIsi K) (tCons te (tCons (tC (.ty "bool")) tNil))) ρ (.bool (isBool d)) ρ1 := ee_isi h (kit_bool d)
theorem ee_isTup (h : EE T te ρ d ρ1) : EE T (tCB (rIsi K) (tCons te (tCons (tC (.ty "tuple")) tNil))) ρ (.bool (isTup d)) ρ1 := ee_isi h (kit_tup d)
theorem ee_isStr (h : EE T te ρ d ρ1) : EE T (tCB (rIsi K) (tCons te (tCons (tC (.ty "str")) tNil))) ρ (.bool (isStr d)) ρ1 := ee_isi h (kit_str d)

/-! ### built-in calls -/
theorem dt1 {B : Hp} {vs : List V} (h : DtAll B vs [x]) : ∃ v, vs = [v] ∧ Dt B v x := by cases h with | cons h1 h2 => cases h2; exact ⟨_, rfl, h1⟩
theorem dt2 {B : Hp} {vs : List V} (h : DtAll B vs [x, y]) : ∃ v u, vs = [v, u] ∧ Dt B v x ∧ Dt B u y := by
  cases h with
  | cons h1 h2 => obtain ⟨u, rfl, h3⟩ := dt1 h2; exact ⟨_, u, rfl, h1, h3⟩
abbrev rLenQ (K : PySem.W.Frag) : List V → Hp → VK → Prop := fun xs H Q => ∃ p ys, xs = [.ref p] ∧ (SqL K H p ys ∨ SqT K H p ys) ∧ Q (.int ys.length) H
theorem rb_lenT : RB (rLenQ K) [.tuple es] (.int es.length) := fun B H vs Q e bt q k => by
  obtain ⟨v, rfl, q0⟩ := dt1 q
  obtain ⟨a, xs, rfl, f2, q⟩ := q0.inv_tup
  exact ⟨a, xs, rfl, .inr (SqT.of (e _ _ f2)), by rw [q.length]; exact k _ B H (Grow.refl e) (.int _)⟩
theorem rb_lenL : RB (rLenQ K) [.list es] (.int es.length) := fun B H vs Q e bt q k => by
  obtain ⟨v, rfl, q0⟩ := dt1 q
  obtain ⟨a, xs, rfl, f2, q⟩ := q0.inv_lst
  exact ⟨a, xs, rfl, .inl (SqL.of (e _ _ f2)), by rw [q.length]; exact k _ B H (Grow.refl e) (.int _)⟩
theorem rb_all {bs : List Bool} : RB (rAll K) [.list (bs.map PyData.bool)] (.bool (bs.all id)) := fun B H vs Q e bt q k => by
  obtain ⟨v, rfl, q0⟩ := dt1 q
  obtain ⟨a, xs, rfl, f2, q⟩ := q0.inv_lst
  have ex := q.bools
  subst ex
  exact ⟨a, bs, rfl, SqL.of (e _ _ f2), k _ B H (Grow.refl e) (.bl _)⟩
abbrev rTupOf (K : PySem.W.Frag) : List V → Hp → VK → Prop := fun xs H Q => ∃ p ys, xs = [.ref p] ∧ ((SqL K H p ys ∧ ∀ l, H l = none → Q (.ref l) (upd H l (.tup ys))) ∨ (SqT K H p ys ∧ Q (.ref p) H))
theorem rb_tupL : RB (rTupOf K) [.list es] (.tuple es) := fun B H vs Q e bt q k => by
  obtain ⟨v, rfl, q0⟩ := dt1 q
  obtain ⟨a, xs, rfl, f2, q⟩ := q0.inv_lst
  refine ⟨a, xs, rfl, .inl ⟨SqL.of (e _ _ f2), fun l hl => ?_⟩⟩
  have g := Grow.new (o := .tup xs) e hl (fun ps z => by cases z)
  exact k _ _ _ g (.tup upd_same (q.mono g.bb))
theorem rb_tupT : RB (rTupOf K) [.tuple es] (.tuple es) := fun B H vs Q e bt q k => by
  obtain ⟨v, rfl, q0⟩ := dt1 q
  obtain ⟨a, xs, f1, f2, q'⟩ := q0.inv_tup
  subst f1
  exact ⟨a, xs, rfl, .inr ⟨SqT.of (e _ _ f2), k _ B H (Grow.refl e) q0⟩⟩
abbrev rListOf (K : PySem.W.Frag) : List V → Hp → VK → Prop := fun xs H Q => ∃ p ys, xs = [.ref p] ∧ (SqL K H p ys ∨ SqT K H p ys) ∧ ∀ l, H l = none → Q (.ref l) (upd H l (.lst ys))
theorem rbl_listL : RBL (rListOf K) [.list es] es := fun B H vs Q e q k => by
  obtain ⟨v, rfl, q0⟩ := dt1 q
  obtain ⟨a, xs, rfl, f2, q⟩ := q0.inv_lst
  exact ⟨a, xs, rfl, .inl (SqL.of (e _ _ f2)), fun l hl => k l xs _ hl (Ex.new hl) upd_same q⟩
theorem rbl_listT : RBL (rListOf K) [.tuple es] es := fun B H vs Q e q k => by
  obtain ⟨v, rfl, q0⟩ := dt1 q
  obtain ⟨a, xs, rfl, f2, q⟩ := q0.inv_tup
  exact ⟨a, xs, rfl, .inr (SqT.of (e _ _ f2)), fun l hl => k l xs _ hl (Ex.new hl) upd_same q⟩
def iabs (i : Int) : Int := if i < 0 then -i else i
theorem rb_abs : RB (fun xs H Q => ∃ i, xs = [V.int i] ∧ Q (.int (if i < 0 then -i else i)) H) [.int i] (.int (iabs i)) := fun B H vs Q e bt q k => by
  obtain ⟨v, rfl, q0⟩ := dt1 q
  rw [q0.inv_int]
  exact ⟨i, rfl, k _ B H (Grow.refl e) (.int _)⟩
theorem rb_max2 : RB (fun xs H Q => ∃ i j, xs = [V.int i, V.int j] ∧ Q (.int (if j > i then j else i)) H) [.int i, .int j] (.int (max i j)) := fun B H vs Q e bt q k => by
  obtain ⟨v, u, rfl, q1, q2⟩ := dt2 q
  rw [q1.inv_int, q2.inv_int]
  refine ⟨i, j, rfl, ?_⟩
  have : (if j > i then j else i) = max i j := by by_cases h : j > i <;> simp only [h, if_true, if_false] <;> omega
  rw [this]
  exact k _ B H (Grow.refl e) (.int _)
theorem rb_min2 : RB (fun xs H Q => ∃ i j, xs = [V.int i, V.int j] ∧ Q (.int (if j < i then j else i)) H) [.int i, .int j] (.int (min i j)) := fun B H vs Q e bt q k => by
  obtain ⟨v, u, rfl, q1, q2⟩ := dt2 q
  rw [q1.inv_int, q2.inv_int]
  refine ⟨i, j, rfl, ?_⟩
  have : (if j < i then j else i) = min i j := by by_cases h : j < i <;> simp only [h, if_true, if_false] <;> omega
  rw [this]
  exact k _ B H (Grow.refl e) (.int _)

/-! ### sorted -/
def insI (x : Int) : List Int → List Int
  | [] => [x]
  | y :: ys => if x ≤ y then x :: y :: ys else y :: insI x ys
def sortI : List Int → List Int
  | [] => []
  | x :: xs => insI x (sortI xs)
theorem insI_perm (x : Int) : ∀ ys, (insI x ys).Perm (x :: ys)
  | [] => List.Perm.refl _
  | y :: ys => by
    unfold insI
    split
    · exact List.Perm.refl _
    · exact ((insI_perm x ys).cons y).trans (List.Perm.swap x y ys)
theorem sortI_perm : ∀ xs, (sortI xs).Perm xs
  | [] => List.Perm.refl _
  | x :: xs => (insI_perm x (sortI xs)).trans ((sortI_perm xs).cons x)
theorem insI_sorted (x : Int) : ∀ ys, ys.Pairwise (· ≤ ·) → (insI x ys).Pairwise (· ≤ ·)
  | [], _ => by simp [insI]
  | y :: ys, h => by
    unfold insI
    have h' := List.pairwise_cons.mp h
    split
    · rename_i hxy
      refine List.pairwise_cons.mpr ⟨fun z hz => ?_, h⟩
      rcases List.mem_cons.mp hz with rfl | hz
      · exact hxy
      · exact Int.le_trans hxy (h'.1 z hz)
    · rename_i hxy
      refine List.pairwise_cons.mpr ⟨fun z hz => ?_, insI_sorted x ys h'.2⟩
      rcases List.mem_cons.mp ((insI_perm x ys).mem_iff.mp hz) with rfl | hz
      · omega
      · exact h'.1 z hz
theorem sortI_sorted : ∀ xs, (sortI xs).Pairwise (· ≤ ·)
  | [] => List.Pairwise.nil
  | x :: xs => insI_sorted x _ (sortI_sorted xs)
theorem sortI_is {xs ys : List Int} (h : ys.Perm xs) (hs : ys.Pairwise (· ≤ ·)) : ys = sortI xs := PySem.W.ksm_same (h.trans (sortI_perm xs).symm) hs (sortI_sorted xs)
theorem rbl_sorted {ns : List Int} : RBL (rSortedI K) [eL ns] ((sortI ns).map PyData.int) := fun B H vs Q e q k => by
  obtain ⟨v, rfl, q0⟩ := dt1 q
  obtain ⟨a, xs, rfl, f2, q⟩ := q0.inv_lst
  have ex := q.ints
  subst ex
  refine ⟨a, ns, rfl, SqL.of (e _ _ f2), fun ns' p h1 h2 hp => ?_⟩
  have := sortI_is h1 h2
  subst this
  exact k p _ _ hp (Ex.new hp) upd_same (DtAll.of_ints _)
end
end DL
namespace DL
open PySem L2 PyProof.Rows
open Evl (Ex)

/-! ### sets of ints: set(xs), len(s) -/
def dd : List Int → List Int
  | [] => []
  | x :: xs => if xs.contains x then dd xs else x :: dd xs
def dcount (ns : List Int) : Nat := (dd ns).length
theorem dd_mem : ∀ (ns : List Int) (k : Int), k ∈ dd ns ↔ k ∈ ns
  | [], k => by simp [dd]
  | x :: xs, k => by
    unfold dd
    split
    · rename_i h
      have hx : x ∈ xs := by simpa using h
      rw [dd_mem xs k]
      constructor
      · exact fun h => List.mem_cons_of_mem _ h
      · intro h
        rcases List.mem_cons.mp h with rfl | h
        · exact hx
        · exact h
    · rw [List.mem_cons, List.mem_cons, dd_mem xs k]
theorem dd_nodup : ∀ (ns : List Int), (dd ns).Nodup
  | [] => by simp [dd]
  | x :: xs => by
    unfold dd
    split
    · exact dd_nodup xs
    · rename_i h
      have hx : x ∉ xs := by simpa using h
      exact List.nodup_cons.mpr ⟨fun z => hx ((dd_mem xs x).mp z), dd_nodup xs⟩
theorem len_le_of_sub {α : Type} [DecidableEq α] : ∀ {l m : List α}, l.Nodup → (∀ x ∈ l, x ∈ m) → l.length ≤ m.length
  | [], _, _, _ => Nat.zero_le _
  | x :: l, m, hn, hs => by
    have hn' := List.nodup_cons.mp hn
    have hx : x ∈ m := hs x List.mem_cons_self
    have h := len_le_of_sub (l := l) (m := m.erase x) hn'.2 fun y hy => by
      have hy' := hs y (List.mem_cons_of_mem _ hy)
      have : y ≠ x := fun z => hn'.1 (by rw [← z]; exact hy)
      exact (List.mem_erase_of_ne this).mpr hy'
    rw [List.length_erase_of_mem hx] at h
    have : 0 < m.length := List.length_pos_of_mem hx
    simp only [List.length_cons]
    omega
theorem dcount_is {L ns : List Int} (h1 : L.Nodup) (h2 : ∀ k, k ∈ L ↔ k ∈ ns) : L.length = dcount ns :=
  Nat.le_antisymm (len_le_of_sub h1 fun x hx => (dd_mem ns x).mpr ((h2 x).mp hx)) (len_le_of_sub (dd_nodup ns) fun x hx => (h2 x).mpr ((dd_mem ns x).mp hx))
theorem dcount_le (ns : List Int) : dcount ns ≤ ns.length := len_le_of_sub (dd_nodup ns) fun x hx => (dd_mem ns x).mp hx
theorem dd_self : ∀ (ns : List Int), ns.Nodup → dd ns = ns
  | [], _ => rfl
  | x :: xs, h => by
    have h' := List.nodup_cons.mp h
    unfold dd
    rw [if_neg (by simpa using h'.1), dd_self xs h'.2]
theorem dd_full : ∀ (ns : List Int), (dd ns).length = ns.length → ns.Nodup
  | [], _ => List.nodup_nil
  | x :: xs, h => by
    have hl := dcount_le xs
    unfold dcount at hl
    by_cases hx : xs.contains x = true
    · have e : dd (x :: xs) = dd xs := by show (if xs.contains x then dd xs else x :: dd xs) = dd xs; rw [if_pos hx]
      rw [e, List.length_cons] at h
      omega
    · have e : dd (x :: xs) = x :: dd xs := by show (if xs.contains x then dd xs else x :: dd xs) = x :: dd xs; rw [if_neg hx]
      rw [e, List.length_cons, List.length_cons] at h
      exact List.nodup_cons.mpr ⟨by simpa using hx, dd_full xs (by omega)⟩
theorem dcount_full (ns : List Int) : (dcount ns = ns.length) ↔ ns.Nodup := ⟨dd_full ns, fun h => by unfold dcount; rw [dd_self ns h]⟩

theorem firstMet_nd (val : Nat → Int) : ∀ i, (PyProof.Rows.firstMet val i).Nodup
  | 0 => by rw [PyProof.Rows.firstMet_zero]; exact List.nodup_nil
  | i + 1 => by
    rw [PyProof.Rows.firstMet_succ]
    have ih := firstMet_nd val i
    show (if (PyProof.Rows.firstMet val i).any (· == val i) then PyProof.Rows.firstMet val i else PyProof.Rows.firstMet val i ++ [val i]).Nodup
    split
    · exact ih
    · rename_i h
      refine List.nodup_append.mpr ⟨ih, by simp, fun a ha b hb => ?_⟩
      rintro rfl
      have : a = val i := by simpa using hb
      subst this
      exact h (List.any_eq_true.mpr ⟨_, ha, by simp⟩)
theorem firstMet_in (ns : List Int) (k : Int) : k ∈ PyProof.Rows.firstMet (fun i => ns.getD i 0) ns.length ↔ k ∈ ns := by
  have h := PyProof.Rows.firstMet_any (fun i => ns.getD i 0) ns.length k
  have e : (List.range ns.length).map (fun i => ns.getD i 0) = ns := by
    refine List.ext_getElem? fun i => ?_
    rw [List.getElem?_map]
    by_cases hi : i < ns.length
    · rw [List.getElem?_range hi, List.getElem?_eq_getElem hi]
      simp [hi]
    · rw [List.getElem?_eq_none (by simpa using hi), List.getElem?_eq_none (by simpa using hi)]
      rfl
  rw [e] at h
  constructor
  · intro hk
    have : (PyProof.Rows.firstMet (fun i => ns.getD i 0) ns.length).any (· == k) = true := List.any_eq_true.mpr ⟨k, hk, by simp⟩
    rw [h] at this
    obtain ⟨y, hy, e⟩ := List.any_eq_true.mp this
    have : y = k := by simpa using e
    rw [← this]; exact hy
  · intro hk
    have : ns.any (· == k) = true := List.any_eq_true.mpr ⟨k, hk, by simp⟩
    rw [← h] at this
    obtain ⟨y, hy, e⟩ := List.any_eq_true.mp this
    have : y = k := by simpa using e
    rw [← this]; exact hy
def rSetI (K : PySem.W.Frag) : List V → Hp → VK → Prop := fun vs H Q => ∃ (a : Addr) (ns : List Int), vs = [V.ref a] ∧ (SqL K H a (ns.map V.int) ∨ SqT K H a (ns.map V.int)) ∧ ns.length ≤ 4000 ∧
  ∀ (p : Addr) (S : Int → Bool), H p = none → Q (.ref p) (upd H p (.set S (dcount ns)))
theorem ints_vals : ∀ {ns : List Int} {us : List Value}, Vals (ns.map V.int) us → PyProof.Rows.IntsAre us ns
  | [], _, .nil => .nil
  | n :: ns, _, .cons r t => by
    obtain ⟨k, rfl⟩ := r
    exact .cons n k (ints_vals t)
section
variable {X : Cx}
theorem cr_setI (hc : X.calm = true) : CallR X (.type "set") (rSetI X.K) := by
  intro pins s σ H vs us Q I r h
  obtain ⟨a, ns, rfl, hs, hl, q⟩ := h
  rw [Vals.ref1 r]
  rcases hs with hs | hs
  · obtain ⟨its, rv, pl, hz⟩ := I.list hs
    have hlen : its.toArray.size = ns.length := by rw [List.size_toArray, ← rv.length, List.length_map]
    refine call_set_list (I.ok.hd hc) pl.isList (by simpa using ints_vals rv) (by rw [hlen]; unfold scanBound; omega) fun h' tk hS hk => ?_
    rw [hlen] at hS
    have e : (PyProof.Rows.firstMet (fun i => ns.getD i 0) ns.length).length = dcount ns := dcount_is (firstMet_nd _ _) (firstMet_in ns)
    rw [e] at hS
    exact ⟨.ref _, upd H s.heap.objs.size (.set _ (dcount ns)), I.laid (t' := tk) (fun b o z => hk b o (Heap.lt_size z) z) (Nat.le_refl _) hS, rfl, q _ _ (I.hok.fresh (Nat.le_refl _))⟩
  · obtain ⟨its, rv, pt, hz⟩ := I.tuple hs
    have hlen : its.toArray.size = ns.length := by rw [List.size_toArray, ← rv.length, List.length_map]
    refine L2.call_set_tupI ns (I.ok.hd hc) pt (by simpa using ints_vals rv) (by unfold scanBound; omega) fun h' tk c hS hc' hk => ?_
    have hS' : h'.SetOf (intKind X.prog X.w) s.heap.objs.size (fun j => decide (j ∈ ns)) c := hS.setOf
    have e : c = dcount ns := by
      obtain ⟨o, es, ep, t, ho, hx, hd, g, nd, hm, hb, hf, hn, _⟩ := hS
      rw [← hn, ← dcount_is nd fun k => by rw [← hm k]; simp]
      simp
    subst e
    exact ⟨.ref _, upd H s.heap.objs.size (.set _ (dcount ns)), I.laid (t' := tk) hk (Nat.le_refl _) hS', rfl, q _ _ (I.hok.fresh (Nat.le_refl _))⟩
def rLenS : List V → Hp → VK → Prop := fun vs H Q => ∃ (a : Addr) (S : Int → Bool) (n : Nat), vs = [V.ref a] ∧ H a = some (.set S n) ∧ n ≤ 4000 ∧ Q (.int n) H
theorem cr_lenS : CallR X (.builtin "len") rLenS := by
  intro pins s σ H vs us Q I r h
  obtain ⟨a, S, n, rfl, ha, hn, q⟩ := h
  rw [Vals.ref1 r]
  obtain ⟨o, es, ep, t, ho, hex, hd, _, _, _, hf, hn'⟩ := I.hok a _ ha
  exact call_len_set ho hex hd hf (by rw [hn'] <;> omega) ⟨.int n, H, I.tok _, ⟨_, by rw [hn']⟩, q⟩
end
section
variable {T : TL} {te ta tb tc : TE} {ρ ρ1 ρ2 : List Sl} {d x y z : PyData} {ds es : List PyData} {K : PySem.W.Frag} {i j : Int} {ns : List Int}
theorem rb_lenSet : ∀ {B H : Hp} {v : V} {Q : VK}, Ex B H → (Dt B v (eL ns) ∨ Dt B v (eT ns)) → ns.length ≤ 4000 → (∀ p S, H p = none → Q (.int (dcount ns)) (upd H p (.set S (dcount ns)))) →
    rSetI K [v] H fun w H2 => rLenS [w] H2 Q := fun {B H v Q} e q hl k => by
  have hd : dcount ns ≤ 4000 := Nat.le_trans (dcount_le ns) hl
  rcases q with q | q
  · obtain ⟨a, xs, rfl, f2, q⟩ := q.inv_lst
    have ex := q.ints
    subst ex
    exact ⟨a, ns, rfl, .inl (SqL.of (e _ _ f2)), hl, fun p S hp => ⟨p, S, _, rfl, upd_same, hd, k p S hp⟩⟩
  · obtain ⟨a, xs, rfl, f2, q⟩ := q.inv_tup
    have ex := q.ints
    subst ex
    exact ⟨a, ns, rfl, .inr (SqT.of (e _ _ f2)), hl, fun p S hp => ⟨p, S, _, rfl, upd_same, hd, k p S hp⟩⟩
/-- len(set(xs)) -/
theorem ee_lenSetL (h : EE T te ρ (eL ns) ρ1) (hl : ns.length ≤ 4000) : EE T (tCB rLenS (tCons (tCB (rSetI K) (tCons te tNil)) tNil)) ρ (.int (dcount ns)) ρ1 := fun F W B H σ Q E k =>
  h F W B H σ _ E fun v B1 H1 e1 E1 q1 => rb_lenSet E1.bh (.inl q1) hl fun p S hp => k _ B1 _ e1 (E1.grow (Grow.junk E1.bh hp)) (.int _)
theorem ee_lenSetT (h : EE T te ρ (eT ns) ρ1) (hl : ns.length ≤ 4000) : EE T (tCB rLenS (tCons (tCB (rSetI K) (tCons te tNil)) tNil)) ρ (.int (dcount ns)) ρ1 := fun F W B H σ Q E k =>
  h F W B H σ _ E fun v B1 H1 e1 E1 q1 => rb_lenSet E1.bh (.inr q1) hl fun p S hp => k _ B1 _ e1 (E1.grow (Grow.junk E1.bh hp)) (.int _)

/-! ### in -/
theorem inV_ints (i : Int) : ∀ ns : List Int, inV (.int i) (ns.map V.int) = ns.contains i
  | [] => rfl
  | n :: ns => by
    show (eqV (.int n) (.int i) || inV (.int i) (ns.map V.int)) = _
    rw [inV_ints i ns, List.contains_cons]
    congr 1
    show (n == i) = (i == n)
    exact Bool.beq_comm
theorem flat_ints : ∀ ns : List Int, (ns.map V.int).all flatV = true
  | [] => rfl
  | n :: ns => by rw [List.map_cons, List.all_cons, flat_ints ns]; rfl
theorem re_inT : RE (rIn K false) (.int i) (eT ns) (.bool (ns.contains i)) := fun B H vx vy Q e bt q1 q2 k => by
  obtain ⟨a, xs, f1, f2, q⟩ := q2.inv_tup
  have ex := q.ints
  subst ex
  refine ⟨a, _, f1, .inr (SqT.of (e _ _ f2)), by rw [q1.inv_int]; rfl, flat_ints ns, ?_⟩
  rw [q1.inv_int, inV_ints]
  exact k _ B H (Grow.refl e) (.bl _)
theorem re_inL : RE (rIn K false) (.int i) (eL ns) (.bool (ns.contains i)) := fun B H vx vy Q e bt q1 q2 k => by
  obtain ⟨a, xs, f1, f2, q⟩ := q2.inv_lst
  have ex := q.ints
  subst ex
  refine ⟨a, _, f1, .inl (SqL.of (e _ _ f2)), by rw [q1.inv_int]; rfl, flat_ints ns, ?_⟩
  rw [q1.inv_int, inV_ints]
  exact k _ B H (Grow.refl e) (.bl _)
theorem re_niT : RE (rIn K true) (.int i) (eT ns) (.bool (!ns.contains i)) := fun B H vx vy Q e bt q1 q2 k => by
  obtain ⟨a, xs, f1, f2, q⟩ := q2.inv_tup
  have ex := q.ints
  subst ex
  refine ⟨a, _, f1, .inr (SqT.of (e _ _ f2)), by rw [q1.inv_int]; rfl, flat_ints ns, ?_⟩
  rw [q1.inv_int, inV_ints]
  exact k _ B H (Grow.refl e) (.bl _)
theorem re_niL : RE (rIn K true) (.int i) (eL ns) (.bool (!ns.contains i)) := fun B H vx vy Q e bt q1 q2 k => by
  obtain ⟨a, xs, f1, f2, q⟩ := q2.inv_lst
  have ex := q.ints
  subst ex
  refine ⟨a, _, f1, .inl (SqL.of (e _ _ f2)), by rw [q1.inv_int]; rfl, flat_ints ns, ?_⟩
  rw [q1.inv_int, inV_ints]
  exact k _ B H (Grow.refl e) (.bl _)
/-- in, data of any depth, of a tuple -/
def rInDT (K : PySem.W.Frag) : R2 := fun x y H Q => ∃ d ds, Dp K H x d ∧ Dp K H y (.tuple ds) ∧ SeqAt.shaped d = true ∧ SeqAt.shaped (.tuple ds) = true ∧ Q (.bl (ds.any fun z => PyData.eqv z d)) H
theorem op_inDT {X : Cx} (hu : X.A.units + 65 < cLine) : OpR X (compareOp .In) (rInDT X.K) := by
  intro pins s σ H x y v u Q I rx ry h
  obtain ⟨d, ds, hd, he, sd, se, q⟩ := h
  obtain ⟨as, r1⟩ := Dp.reads I d x v hd rx
  obtain ⟨bs, r2⟩ := Dp.reads I (.tuple ds) y u he ry
  exact SeqAt.in_tuple_reads r2 r1 (SeqAt.canLay_of_shaped se) (SeqAt.canLay_of_shaped sd) (room_in_shaped sd hu) ⟨.bl _, H, I, rfl, q⟩
theorem re_inDT (h1 : SeqAt.shaped x = true) (h2 : SeqAt.shaped (.tuple ds) = true) : RE (rInDT K) x (.tuple ds) (.bool (ds.any fun z => PyData.eqv z x)) := fun B H vx vy Q e bt q1 q2 k =>
  ⟨x, ds, q1.dp e, q2.dp e, h1, h2, k _ B H (Grow.refl e) (.bl _)⟩
theorem re_inDL (h1 : SeqAt.shaped x = true) (h2 : SeqAt.shaped (.list ds) = true) : RE (rInD K) x (.list ds) (.bool (ds.any fun z => PyData.eqv z x)) := fun B H vx vy Q e bt q1 q2 k =>
  ⟨x, ds, q1.dp e, q2.dp e, h1, h2, k _ B H (Grow.refl e) (.bl _)⟩
theorem re_niDL (h1 : SeqAt.shaped x = true) (h2 : SeqAt.shaped (.list ds) = true) : RE (rNotInD K) x (.list ds) (.bool (!ds.any fun z => PyData.eqv z x)) := fun B H vx vy Q e bt q1 q2 k =>
  ⟨x, ds, q1.dp e, q2.dp e, h1, h2, k _ B H (Grow.refl e) (.bl _)⟩
theorem any_eP (p : Int × Int) : ∀ ps : List (Int × Int), ((ps.map eP).any fun z => PyData.eqv z (eP p)) = ps.contains p
  | [] => rfl
  | q :: ps => by
    rw [List.map_cons, List.any_cons, any_eP p ps, List.contains_cons, eqv_eP]
    congr 1
    by_cases h : q = p
    · subst h; simp
    · have : ¬ p = q := fun z => h z.symm
      simp [h, this]
/-! ### t < u -/
theorem re_ltT {ms : List Int} : RE (rLtT K) (eT ns) (eT ms) (.bool (HT.lexLt ns ms)) := fun B H vx vy Q e bt q1 q2 k => by
  obtain ⟨a, xs, f1, f2, q⟩ := q1.inv_tup
  obtain ⟨b, ys, g1, g2, r⟩ := q2.inv_tup
  have e1 := q.ints
  have e2 := r.ints
  subst e1 e2
  exact ⟨a, b, ns, ms, f1, g1, SqT.of (e _ _ f2), SqT.of (e _ _ g2), k _ B H (Grow.refl e) (.bl _)⟩

/-! ### list(range(..)), tuple(range(..)) -/
theorem rgV_rng {B : Hp} (a b : Int) : DtAll B (rgV a b) (rng a (b - a).toNat) := by
  unfold rgV rng
  generalize List.range (b - a).toNat = l
  induction l with
  | nil => exact .nil
  | cons n l ih => exact .cons (.int _) ih
theorem el_listR1 {n : Int} (h : EE T te ρ (.int n) ρ1) (hn : 0 ≤ n ∧ n ≤ 100000) : EL T (tLstRg (tRg1 te)) ρ (rng 0 n.toNat) ρ1 := fun F W B H σ Q E k =>
  h F W B H σ _ E fun v B1 H1 e1 E1 q1 => ⟨n, q1.inv_int, ⟨by omega, by omega, by omega, by omega, by omega⟩, fun p hp => by
    have g := Grow.junk (o := .lst (rgV 0 n)) E1.bh hp
    have r := rgV_rng (B := B1) 0 n
    rw [Int.sub_zero] at r
    exact k p _ B1 _ e1 (E1.grow g) (Evl.fresh_back E1.bh hp) (Evl.fresh_back E1.fh hp) upd_same r (E1.notOwn hp)⟩
theorem ee_tupR1 {n : Int} (h : EE T te ρ (.int n) ρ1) (hn : 0 ≤ n ∧ n ≤ 100000) : EE T (tTupRg (tRg1 te)) ρ (.tuple (rng 0 n.toNat)) ρ1 := fun F W B H σ Q E k =>
  h F W B H σ _ E fun v B1 H1 e1 E1 q1 => ⟨n, q1.inv_int, ⟨by omega, by omega, by omega, by omega, by omega⟩, fun p hp => by
    have g := Grow.new (o := .tup (rgV 0 n)) E1.bh hp (fun ps z => by cases z)
    have r := rgV_rng (B := B1) 0 n
    rw [Int.sub_zero] at r
    exact k _ _ _ (e1.trans g.bb) (E1.grow g) (.tup upd_same (r.mono g.bb))⟩
theorem el_listR2 {lo n : Int} (h : EE T ta ρ (.int lo) ρ1) (h2 : EE T tb ρ1 (.int n) ρ2) (hl : -100000 ≤ lo ∧ lo ≤ 100000) (hn : -100000 ≤ n ∧ n ≤ 100000) : EL T (tLstRg (tRg2 ta tb)) ρ (rng lo (n - lo).toNat) ρ2 := fun F W B H σ Q E k =>
  h F W B H σ _ E fun v B1 H1 e1 E1 q1 => h2 F W B1 H1 σ _ E1 fun u B2 H2 e2 E2 q2 => ⟨lo, n, (q1.mono e2).inv_int, q2.inv_int, ⟨by omega, by omega, by omega, by omega, by omega⟩, fun p hp => by
    have g := Grow.junk (o := .lst (rgV lo n)) E2.bh hp
    exact k p _ B2 _ (e1.trans e2) (E2.grow g) (Evl.fresh_back E2.bh hp) (Evl.fresh_back E2.fh hp) upd_same (rgV_rng lo n) (E2.notOwn hp)⟩
/-- the numbers lo, lo + 1, .. -/
def ri (lo : Int) (n : Nat) : List Int := (List.range n).map fun (i : Nat) => lo + (i : Int)
theorem rng_ri (lo : Int) (n : Nat) : rng lo n = (ri lo n).map PyData.int := by unfold rng ri; rw [List.map_map]; rfl

/-! ### sorted of pairs -/
def ltPr (p q : Int × Int) : Bool := if p.1 = q.1 then decide (p.2 < q.2) else decide (p.1 < q.1)
def insP (x : Int × Int) : List (Int × Int) → List (Int × Int)
  | [] => [x]
  | y :: ys => if ltPr y x then y :: insP x ys else x :: y :: ys
def sortP : List (Int × Int) → List (Int × Int)
  | [] => []
  | x :: xs => insP x (sortP xs)
theorem insP_perm (x : Int × Int) : ∀ ys, (insP x ys).Perm (x :: ys)
  | [] => List.Perm.refl _
  | y :: ys => by
    unfold insP
    split
    · exact ((insP_perm x ys).cons y).trans (List.Perm.swap x y ys)
    · exact List.Perm.refl _
theorem sortP_perm : ∀ xs, (sortP xs).Perm xs
  | [] => List.Perm.refl _
  | x :: xs => (insP_perm x (sortP xs)).trans ((sortP_perm xs).cons x)
def leP (p q : Int × Int) : Prop := p.1 < q.1 ∨ (p.1 = q.1 ∧ p.2 ≤ q.2)
theorem ltPr_iff (p q : Int × Int) : ltPr p q = true ↔ p.1 < q.1 ∨ (p.1 = q.1 ∧ p.2 < q.2) := by
  unfold ltPr
  split <;> simp <;> omega
theorem insP_sorted (x : Int × Int) : ∀ ys, ys.Pairwise leP → (insP x ys).Pairwise leP
  | [], _ => by simp [insP]
  | y :: ys, h => by
    have h' := List.pairwise_cons.mp h
    unfold insP
    split
    · rename_i hyx
      rw [ltPr_iff] at hyx
      refine List.pairwise_cons.mpr ⟨fun z hz => ?_, insP_sorted x ys h'.2⟩
      rcases List.mem_cons.mp ((insP_perm x ys).mem_iff.mp hz) with rfl | hz
      · unfold leP; omega
      · exact h'.1 z hz
    · rename_i hyx
      rw [ltPr_iff] at hyx
      refine List.pairwise_cons.mpr ⟨fun z hz => ?_, h⟩
      rcases List.mem_cons.mp hz with rfl | hz
      · unfold leP; omega
      · have := h'.1 z hz
        unfold leP at this ⊢
        omega
theorem sortP_sorted : ∀ xs, (sortP xs).Pairwise leP
  | [] => List.Pairwise.nil
  | x :: xs => insP_sorted x _ (sortP_sorted xs)
theorem sorted_uniq : ∀ {a b : List (Int × Int)}, a.Perm b → a.Pairwise leP → b.Pairwise leP → a = b
  | [], b, h, _, _ => (List.Perm.nil_eq h)
  | x :: a, [], h, _, _ => by have := h.length_eq; simp at this
  | x :: a, y :: b, h, ha, hb => by
    have ha' := List.pairwise_cons.mp ha
    have hb' := List.pairwise_cons.mp hb
    have e : x = y := by
      have hx : x ∈ y :: b := h.mem_iff.mp List.mem_cons_self
      have hy : y ∈ x :: a := h.mem_iff.mpr List.mem_cons_self
      rcases List.mem_cons.mp hx with rfl | hx
      · rfl
      · rcases List.mem_cons.mp hy with rfl | hy
        · rfl
        · have h1 := hb'.1 x hx
          have h2 := ha'.1 y hy
          unfold leP at h1 h2
          refine Prod.ext ?_ ?_ <;> omega
    subst e
    rw [sorted_uniq (List.Perm.cons_inv h) ha'.2 hb'.2]
theorem sortP_is {xs ys : List (Int × Int)} (h : ys.Perm xs) (hs : ys.Pairwise leP) : ys = sortP xs := sorted_uniq (h.trans (sortP_perm xs).symm) hs (sortP_sorted xs)
/-- the pair that stands at a value -/
def prAt (H : Hp) : V → Int × Int
  | .ref t => (match H t with | some (.tup [.int i, .int j]) => (i, j) | _ => (0, 0))
  | _ => (0, 0)
theorem prAt_dt {B H : Hp} (e : Ex B H) {v : V} {p : Int × Int} (h : Dt B v (eP p)) : prAt H v = p ∧ ∃ t, v = V.ref t ∧ H t = some (.tup [.int p.1, .int p.2]) := by
  obtain ⟨a, xs, rfl, f2, q⟩ := h.inv_tup
  obtain ⟨u, w, rfl, q1, q2⟩ := dt2 q
  have e1 := q1.inv_int
  have e2 := q2.inv_int
  subst e1 e2
  have h3 := e _ _ f2
  refine ⟨?_, a, rfl, h3⟩
  show (match H a with | some (.tup [.int i, .int j]) => (i, j) | _ => (0, 0)) = p
  rw [h3]
theorem dt_pairs {B H : Hp} (e : Ex B H) : ∀ {vs : List V} {ps : List (Int × Int)}, DtAll B vs (ps.map eP) → vs.map (prAt H) = ps ∧ ∀ v ∈ vs, Dt B v (eP (prAt H v))
  | [], [], _ => ⟨rfl, fun v hv => by cases hv⟩
  | [], p :: ps, h => by cases h
  | v :: vs, [], h => by cases h
  | v :: vs, p :: ps, h => by
    cases h with
    | cons h1 h2 =>
      obtain ⟨e1, e2⟩ := dt_pairs e h2
      have := (prAt_dt e h1).1
      refine ⟨by rw [List.map_cons, this, e1], fun w hw => ?_⟩
      rcases List.mem_cons.mp hw with rfl | hw
      · rw [this]; exact h1
      · exact e2 w hw
theorem dt_of_pairs {B H : Hp} : ∀ {vs : List V}, (∀ v ∈ vs, Dt B v (eP (prAt H v))) → DtAll B vs ((vs.map (prAt H)).map eP)
  | [], _ => .nil
  | v :: vs, h => .cons (h v List.mem_cons_self) (dt_of_pairs fun w hw => h w (List.mem_cons_of_mem _ hw))
theorem rbl_sortedP {ps : List (Int × Int)} : RBL (rSortedPO K) [.list (ps.map eP)] ((sortP ps).map eP) := fun B H vs Q e q k => by
  obtain ⟨v, rfl, q0⟩ := dt1 q
  obtain ⟨a, xs, rfl, f2, q⟩ := q0.inv_lst
  obtain ⟨e1, e2⟩ := dt_pairs e q
  refine ⟨a, xs, prAt H, rfl, SqL.of (e _ _ f2), fun x hx => (prAt_dt e (e2 x hx)).2, fun ys p h1 h2 hp => ?_⟩
  have hperm : (ys.map (prAt H)).Perm ps := by rw [← e1]; exact h2.perm.map _
  have hsort : (ys.map (prAt H)).Pairwise leP := by
    rw [List.pairwise_map]
    refine List.Pairwise.imp ?_ h1
    intro x y hxy
    have := SrtO.lexB_no.mp hxy
    unfold leP
    omega
  have hy : ys.map (prAt H) = sortP ps := sortP_is hperm hsort
  have hd : ∀ v ∈ ys, Dt B v (eP (prAt H v)) := fun v hv => e2 v (h2.perm.mem_iff.mp hv)
  have := dt_of_pairs hd
  rw [hy] at this
  exact k p ys _ hp (Ex.new hp) upd_same this
end
end DL
namespace DL
open PySem L2 PyProof.Rows
open Evl (Ex)

/-! ### the built-in names -/
structure Bt (mg : Str → Option Value) : Prop where
  len : mg "len" = none
  range : mg "range" = none
  tuple : mg "tuple" = none
  list : mg "list" = none
  isinstance : mg "isinstance" = none
  all : mg "all" = none
  abs : mg "abs" = none
  sorted : mg "sorted" = none
  set : mg "set" = none
  max : mg "max" = none
  min : mg "min" = none
  int : mg "int" = none
  bool : mg "bool" = none
  str : mg "str" = none
  sum : mg "sum" = none
  enumerate : mg "enumerate" = none
  valueError : mg "ValueError" = none
theorem bb_len : bootBuiltins "len" = some (.builtin "len") := by decide +kernel
theorem bb_tuple : bootBuiltins "tuple" = some (.type "tuple") := by decide +kernel
theorem bb_list : bootBuiltins "list" = some (.type "list") := by decide +kernel
theorem bb_isinstance : bootBuiltins "isinstance" = some (.builtin "isinstance") := by decide +kernel
theorem bb_all : bootBuiltins "all" = some (.builtin "all") := by decide +kernel
theorem bb_abs : bootBuiltins "abs" = some (.builtin "abs") := by decide +kernel
theorem bb_sorted : bootBuiltins "sorted" = some (.builtin "sorted") := by decide +kernel
theorem bb_set : bootBuiltins "set" = some (.type "set") := by decide +kernel
theorem bb_max : bootBuiltins "max" = some (.builtin "max") := by decide +kernel
theorem bb_min : bootBuiltins "min" = some (.builtin "min") := by decide +kernel
theorem bb_int : bootBuiltins "int" = some (.type "int") := by decide +kernel
theorem bb_bool : bootBuiltins "bool" = some (.type "bool") := by decide +kernel
theorem bb_str : bootBuiltins "str" = some (.type "str") := by decide +kernel
theorem bb_sum : bootBuiltins "sum" = some (.builtin "sum") := by decide +kernel
theorem bb_ve : bootBuiltins "ValueError" = some (.type "ValueError") := by decide +kernel

/-! ### defs and calls -/
structure Fn (K : PySem.W.Frag) (mg : Str → Option Value) (x : Str) (st : Stmt) : Prop where
  ex : ∃ f fd, Fun K x x st f fd ∧ mg x = some (.ref f)
structure Cal (P : Program) (w : World) (K : PySem.W.Frag) (mg : Str → Option Value) (base : Heap) (k : Nat) (x : Str) (ps : List Str) (sp : Sp) : Prop where
  ex : ∃ f fd, FnOk P w K mg base (L2N.CX P w) k f fd ps sp ∧ mg x = some (.ref f) ∧ PySem.W.keepIn K (.ref f) = true ∧ Binds K fd ps []
/-- how a def's arguments bind -/
def BindsAs (x : Str) (st : Stmt) (ps : List Str) : Prop := ∀ (kV doc pm : Value) (an : Option Addr) (cdv ct : Value) (us : List Value), us.length = ps.length → bindArgs (PySem.W.fnOf x x (defArgs st) (defBody st) (defScope st) .none kV doc pm an cdv ct) ⟨us, []⟩ = pure (ps.zip us)
section
variable {P : Program} {w : World} {K : PySem.W.Frag} {mg : Str → Option Value} {base : Heap}
theorem calP {x : Str} {st : Stmt} {N ps : List Str} {k : Nat} {R : List PyData → Res → Prop} (F : Fn K mg x st) (S : FnScope N ps (defScope st)) (hbind : BindsAs x st ps) (hl : ∀ ds r, R ds r → ds.length = ps.length)
    (hb : ∀ (f : Addr) (cdv : Value) (A : Around) (outer : List PySem.Env) (s : Shared) (H : Hp) (E : XK), Room k (A.deeper (envOfC x (defScope st) s.heap.objs.size f cdv)) →
      ∃ t, PSs (cxOf (L2N.CX P w) P w K mg base N x (defScope st) f cdv A outer s H E) (defBody st) t ∧ ∀ ds r, R ds r → ∃ o, SS [] E t (slots N.length ds) o ∧ Answers r o) :
    Cal P w K mg base (k + 1) x ps (spP R) := by
  obtain ⟨f, fd, Fu, hm⟩ := F.ex
  exact ⟨f, fd, fnP Fu S hl (fun cdv A outer s H E hr => hb f cdv A outer s H E hr), hm, Fu.kp, Fu.binds hbind⟩
/-- .. of a def that raises nothing -/
theorem calQ {x : Str} {st : Stmt} {N ps : List Str} {k : Nat} {R : List PyData → Res → Prop} (F : Fn K mg x st) (S : FnScope N ps (defScope st)) (hbind : BindsAs x st ps) (hl : ∀ ds r, R ds r → ds.length = ps.length)
    (hb : ∀ (f : Addr) (cdv : Value) (A : Around) (outer : List PySem.Env) (s : Shared) (H : Hp) (E : XK), Room k (A.deeper (envOfC x (defScope st) s.heap.objs.size f cdv)) →
      ∃ t, PSs (cxOf (L2N.CX P w) P w K mg base N x (defScope st) f cdv A outer s H E).nox (defBody st) t ∧ ∀ ds r, R ds r → ∃ o, SS [] E t (slots N.length ds) o ∧ Answers r o) :
    Cal P w K mg base (k + 1) x ps (spP R) :=
  calP F S hbind hl fun f cdv A outer s H E hr => by
    obtain ⟨t, h1, h2⟩ := hb f cdv A outer s H E hr
    exact ⟨t, h1.nox, h2⟩
theorem Cal.mono {j k : Nat} {x : Str} {ps : List Str} {sp : Sp} (c : Cal P w K mg base j x ps sp) (h : j ≤ k) : Cal P w K mg base k x ps sp := by
  obtain ⟨f, fd, F, r⟩ := c.ex
  exact ⟨f, fd, F.mono h, r⟩
/-- another promise that follows -/
theorem Cal.imp {k : Nat} {x : Str} {ps : List Str} {sp sp' : Sp} (c : Cal P w K mg base k x ps sp) (h : ∀ vs H Q E, sp' vs H Q E → sp vs H Q E) : Cal P w K mg base k x ps sp' := by
  obtain ⟨f, fd, F, r⟩ := c.ex
  exact ⟨f, fd, F.imp h, r⟩
end
section
variable {X : Cx} {k : Nat} {x : Str} {ps : List Str} {sp : Sp} {e : Expr} {es : List Expr} {t : TA} {p pos : Pos} {E : XK}
/-- a call that raises nothing -/
theorem pe_cal (c : Cal X.prog X.w X.K X.mg X.base k x ps sp) (hr : Room k X.A) (hg : Gl X x) (ha : PA X (e :: es) t)
    (hdb : (x == ("__debug__" : Str)) = false := by decide) (he : starEach (e :: es) X.env = (false, eval e X.env) :: starEach es X.env := by rfl) (hpl : (backTo pos (starEach es X.env)).any (·.1) = false := by rfl) :
    PE X (.Call (.Name x p) (e :: es) [] pos) (tCall sp [] E0 t) := by
  obtain ⟨f, fd, F, hm, hk, hb⟩ := c.ex
  exact pe_call F hr hg hm hk hb .nil passN ha hdb he hpl
/-- a call whose exception goes on -/
theorem pe_calX (c : Cal X.prog X.w X.K X.mg X.base k x ps sp) (hr : Room k X.A) (hg : Gl X x) (tk : L2N.Takes X (fun cls d _ H => E cls d H)) (ha : PA X (e :: es) t)
    (hdb : (x == ("__debug__" : Str)) = false := by decide) (he : starEach (e :: es) X.env = (false, eval e X.env) :: starEach es X.env := by rfl) (hpl : (backTo pos (starEach es X.env)).any (·.1) = false := by rfl) :
    PE X (.Call (.Name x p) (e :: es) [] pos) (tCall sp [] E t) := by
  obtain ⟨f, fd, F, hm, hk, hb⟩ := c.ex
  exact pe_call F hr hg hm hk hb .nil (L2N.passes_call tk fun _ _ _ _ h => h) ha hdb he hpl
end
/-- an exception class of the program's -/
structure Xc (K : PySem.W.Frag) (mg : Str → Option Value) (x : Str) (C : Addr) : Prop where
  g : mg x = some (.ref C)
  q : PySem.W.excIn K C [.type "ValueError", .type "Exception", .type "BaseException", .type "object"] "ValueError.__new__" = true
  k : PySem.W.keepIn K (.ref C) = true
  b : PySem.W.subIn K (.ref C) (.type "BaseException") = some true
  t : PySem.W.typeIn K (.ref C) = some (.type "type")
section
variable {X : Cx} {x m : Str} {C : Addr} {j : Nat} {p p2 pos pos2 : Pos} {E : XK}
/-- raise C('m') -/
theorem ps_raiseC (c : Xc X.K X.mg x C) (hc : X.calm = true) (hg : Gl X x) (tk : L2N.Takes X (fun cls d _ H => E cls d H)) (hdb : (x == ("__debug__" : Str)) = false := by decide) :
    PS X (.Raise (some (.Call (.Name x p) [.Constant (.str m) j p2] [] pos)) none pos2) (fun _ _ H => E (.ref C) none H) :=
  L2N.ps_raise hc tk (L2N.pmk_own PySem.F.excBase_ValueError c.q c.g c.k (raises_own c.b c.t) hg hdb)
end
theorem ss_raiseC {T : TL} {X : XK} {ρ : List Sl} {C : Addr} : SS T X (fun _ _ H => X (.ref C) none H) ρ (.ex C ρ) := fun F W D B H σ Ev k => k σ B H (Ex.refl _) Ev
end DL
namespace DL
open PySem L2
theorem hu0 {A : Around} {k : Nat} (hr : Room k A) : A.units < cLine := hr.units0
theorem hu64 {A : Around} {k : Nat} (hr : Room k A) : A.units + 64 < cLine := hr.units
theorem hu65 {A : Around} {k : Nat} (hr : Room k A) : A.units + 65 < cLine := by have := hr.un; omega
end DL
namespace DL
open PySem L2 PyProof.Rows
section
variable {X : Cx} {K : PySem.W.Frag}
theorem ixT (h : X.K = K) : IxR X (rIxT K) := by subst h; exact ix_tup
theorem ixL (h : X.K = K) : IxR X (rIxL K) := by subst h; exact ix_list
theorem isiK (h : X.K = K) : CallR X (.builtin "isinstance") (rIsi K) := by subst h; exact call_isi
theorem lenK (h : X.K = K) : CallR X (.builtin "len") (rLenQ K) := by subst h; exact call_len_seq
theorem allK (h : X.K = K) (hc : X.calm = true) : CallR X (.builtin "all") (rAll K) := by subst h; exact cr_all hc
theorem sumK (h : X.K = K) (hc : X.calm = true) : CallR X (.builtin "sum") (rSum K) := by subst h; exact cr_sum hc
theorem maxK (h : X.K = K) (hc : X.calm = true) : CallR X (.builtin "max") (rMax K) := by subst h; exact cr_max hc
theorem tupK (h : X.K = K) : CallR X (.type "tuple") (rTupOf K) := by subst h; exact call_tuple_of
theorem listK (h : X.K = K) : CallR X (.type "list") (rListOf K) := by subst h; exact call_list_of
theorem setK (h : X.K = K) (hc : X.calm = true) : CallR X (.type "set") (rSetI K) := by subst h; exact cr_setI hc
theorem srtI (h : X.K = K) : CallR X (.builtin "sorted") (rSortedI K) := by subst h; exact cr_sortedI
theorem srtP (h : X.K = K) : CallR X (.builtin "sorted") (rSortedPO K) := by subst h; exact cr_sortedPO
theorem inK (h : X.K = K) : OpR X (compareOp .In) (rIn K false) := by subst h; exact op_in_seq
theorem niK (h : X.K = K) : OpR X (compareOp .NotIn) (rIn K true) := by subst h; exact op_notIn_seq
theorem eqDK (h : X.K = K) (hu : X.A.units + 64 < cLine) : OpR X (compareOp .Eq) (rEqD K) := by subst h; exact op_eqD hu
theorem neDK (h : X.K = K) (hu : X.A.units + 64 < cLine) : OpR X (compareOp .NotEq) (rNeD K) := by subst h; exact op_neD hu
theorem ltTK (h : X.K = K) (hu : X.A.units < cLine) : OpR X (compareOp .Lt) (rLtT K) := by subst h; exact op_ltT hu
theorem inDTK (h : X.K = K) (hu : X.A.units + 65 < cLine) : OpR X (compareOp .In) (rInDT K) := by subst h; exact op_inDT hu
theorem inDK (h : X.K = K) (hu : X.A.units + 65 < cLine) : OpR X (compareOp .In) (rInD K) := by subst h; exact op_inD hu
theorem niDK (h : X.K = K) (hu : X.A.units + 65 < cLine) : OpR X (compareOp .NotIn) (rNotInD K) := by subst h; exact op_notInD hu
theorem catAK (h : X.K = K) : OpR X (binaryOp .Add) (rCatA K) := by subst h; exact op_catA
theorem slTK (h : X.K = K) : SlR X (rSlA K) := by subst h; exact sl_tupA
theorem slLK (h : X.K = K) : SlR X (rSlL K) := by subst h; exact sl_list
theorem piT {tg l : Expr} {tl : TE} (h : X.K = K) (hl : PE X l tl) : PI X tg l (iTup K tl) := by subst h; exact pi_tup hl
theorem piL {tg l : Expr} {tl : TE} (h : X.K = K) (hl : PE X l tl) : PI X tg l (iList K tl) := by subst h; exact pi_list hl
theorem pgT {es : List Expr} {k : Nat} {t : TGs} {n : Nat} {pos : Pos} (h : X.K = K) (hc : X.calm = true) (hs : PGs X es t)
    (hn : (assignEach es X.env).length = n := by rfl) (hst : (assignEach es X.env).findIdx? (·.1) = none := by rfl) : PG X (.Tuple es k pos) (gTup K n t) := by subst h; exact pg_tup hc hs hn hst
theorem appK {o e : Expr} {es : List Expr} {to : TE} {t : TA} {apos cpos : Pos} (h : X.K = K) (ho : PE X o to) (ha : PA X (e :: es) t)
    (hbase : attributeBase o "append" X.env (eval o X.env) = eval o X.env := by rfl)
    (hfew : ((backTo cpos (starEach (e :: es) X.env)).all (fun x => !x.1) && (backToKw cpos (keywordEach [] X.env)).all (fun x => x.1.isSome)
      && decide ((e :: es).length + ([] : List Keyword).length + (if ([] : List Keyword).isEmpty then 0 else 1) < 30)) = true := by rfl)
    (hline : (apos.endLine == cpos.line) = true := by rfl) (hs : starEach (e :: es) X.env = (false, eval e X.env) :: starEach es X.env := by rfl) (hplain : (backTo cpos (starEach es X.env)).any (·.1) = false := by rfl) :
    PE X (.Call (.Attribute o "append" apos) (e :: es) [] cpos) (tBM K "list" rAppend to t) := by
  subst h
  exact pe_bm PySem.F.plainAttrs_list PySem.F.slot_list_append PySem.F.type_list_append mt_append ho ha hbase hfew hline hs hplain
end
end DL
namespace DL
open PySem L2 PyProof.Rows
open Evl (Ex)
/-! ### weakening, loops by accumulators -/
theorem Weaker.nil : Weaker [] [] := ⟨rfl, fun i s h => by simp at h⟩
theorem Weaker.cons {a b : List Sl} {s s' : Sl} (hs : s' = .no ∨ s = s') (h : Weaker a b) : Weaker (s :: a) (s' :: b) := by
  refine ⟨by rw [List.length_cons, List.length_cons, h.1], fun i t ht => ?_⟩
  cases i with
  | zero =>
    simp at ht
    subst ht
    rcases hs with h | h
    · exact .inl h
    · exact .inr (by simp [h])
  | succ i => simpa using h.2 i t (by simpa using ht)
theorem Weaker.same {a b : List Sl} {s : Sl} (h : Weaker a b) : Weaker (s :: a) (s :: b) := .cons (.inr rfl) h
theorem Weaker.no {a b : List Sl} {s : Sl} (h : Weaker a b) : Weaker (s :: a) (.no :: b) := .cons (.inl rfl) h
theorem Weaker.refl (a : List Sl) : Weaker a a := ⟨rfl, fun _ _ h => .inr h⟩
theorem forR_fold {α S : Type} {P : PyData → List Sl → Out → Prop} (enc : α → PyData) (ρ : S → List Sl) (f : S → α → S) (I : S → Prop) : ∀ (xs : List α) (s : S), I s → (∀ s x, x ∈ xs → I s → P (enc x) (ρ s) (.nx (ρ (f s x))) ∧ I (f s x)) → ForR P (xs.map enc) (ρ s) (.nx (ρ (xs.foldl f s)))
  | [], s, _, _ => .nil
  | x :: xs, s, hs, h => by
    obtain ⟨h1, h2⟩ := h s x List.mem_cons_self hs
    exact .next h1 (forR_fold enc ρ f I xs (f s x) h2 fun s y hy => h s y (List.mem_cons_of_mem _ hy))
theorem forR_acc {α : Type} {P : PyData → List Sl → Out → Prop} (enc f : α → PyData) (ρ : List PyData → List Sl) : ∀ (xs : List α) (acc : List PyData), (∀ acc' x, x ∈ xs → acc'.length < acc.length + xs.length → P (enc x) (ρ acc') (.nx (ρ (acc' ++ [f x])))) → ForR P (xs.map enc) (ρ acc) (.nx (ρ (acc ++ xs.map f)))
  | [], acc, _ => by simpa using ForR.nil
  | x :: xs, acc, h => by
    have h1 := h acc x List.mem_cons_self (by simp)
    have h2 := forR_acc enc f ρ xs (acc ++ [f x]) fun acc' y hy hl => h acc' y (List.mem_cons_of_mem _ hy) (by simp at hl ⊢; omega)
    rw [List.map_cons, List.map_cons]
    have e : acc ++ f x :: xs.map f = (acc ++ [f x]) ++ xs.map f := by simp
    rw [e]
    exact .next h1 h2

/-! ### a def whose first argument is a list that it changes -/
structure GrowO (p : Addr) (B H B' H' : Hp) : Prop where
  bb : Ex B B'
  bh : Ex B' H'
  hh : ∀ a o, a ≠ p → H a = some o → H' a = some o
  nb : ∀ a, B a = none → H a ≠ none → B' a = none
  bt : (∀ a ps, B a ≠ some (.tbl ps)) → ∀ a ps, B' a ≠ some (.tbl ps)
def spO (R : List PyData → List PyData → Res → List PyData → Prop) : Sp := fun vs H Q E => ∃ B p us xs cs ds r cs', vs = .ref p :: us ∧ Ex B H ∧ (∀ a ps, B a ≠ some (.tbl ps)) ∧ B p = none ∧ H p = some (.lst xs) ∧ DtAll B xs cs ∧ DtAll B us ds ∧ R cs ds r cs' ∧
  (match r with
    | .ok d => ∀ v B' H' ys, GrowO p B H B' H' → H' p = some (.lst ys) → DtAll B' ys cs' → Dt B' v d → Q v H'
    | .ex C => ∀ B' H' ys, GrowO p B H B' H' → H' p = some (.lst ys) → DtAll B' ys cs' → E (.ref C) none H')
section
variable {T : TL} {F : Hp} {W : Addr → Prop} {B H B' H' : Hp} {σ : Sigma} {ρ : List Sl}
theorem Env.growO {p : Addr} {i : Nat} {qa : Option Addr} {cs cs' : List PyData} {ys : List V} (E : Env T F W B H σ ρ) (hi : ρ[i]? = some (.own qa cs)) (hp : σ[i]? = some (some (.ref p))) (g : GrowO p B H B' H') (hy : H' p = some (.lst ys)) (q : DtAll B' ys cs') : Env T F W B' H' σ (ρ.set i (.own qa cs')) := by
  obtain ⟨p', xs, e, hB, hF, hH, qx⟩ := E.own hi
  have hqa : ∀ a, qa = some a → p = a := fun a z => by
    subst z
    have := E.ownAt hi
    rw [hp] at this
    cases this
    rfl
  rw [hp] at e
  cases e
  have hil : i < ρ.length := (List.getElem?_eq_some_iff.mp hi).1
  refine ⟨fun a o ha => g.hh a o (ne_of_none ha hF) (E.fh a o ha), g.bh, E.wf, fun a ha => ?_, fun t ht => ?_, E.ft, g.bt E.bt, by rw [List.length_set]; exact E.ln, fun j s hs => ?_, fun a b r q1 q2 fs gs hab ha hb' => ?_⟩
  · refine g.nb a (E.wb a ha) (fun z => ?_)
    cases e : F a with
    | none => exact E.wf a ha e
    | some o => rw [E.fh a o e] at z; cases z
  · obtain ⟨ps, h1, h2, h3⟩ := E.tb t ht
    refine ⟨ps, g.hh _ _ (ne_of h1 hH (fun z => by cases z)) h1, h2, fun pos cv hc => ?_⟩
    obtain ⟨c, e1, e2⟩ := h3 pos cv hc
    exact ⟨c, e1, g.hh _ _ (ne_of e2 hH (fun z => by unfold LamX.CodeO at z; cases z)) e2⟩
  · by_cases hj : i = j
    · subst hj
      rw [List.getElem?_set_self hil] at hs
      cases hs
      exact ⟨_, hp, p, ys, rfl, g.nb p hB (by rw [hH]; exact fun z => by cases z), hF, hy, q, hqa⟩
    · rw [List.getElem?_set_ne hj] at hs
      obtain ⟨o, h1, h2⟩ := E.sl j s hs
      refine ⟨o, h1, ?_⟩
      cases s with
      | no => trivial
      | dat d => obtain ⟨v, e, q'⟩ := h2; exact ⟨v, e, q'.mono g.bb⟩
      | is k => exact k.mono g.bb h2
      | obj r C st =>
        obtain ⟨e', e1, e2, dx, fs, e3, q'⟩ := h2
        exact ⟨e', g.nb r e1 (by rw [e3]; exact fun z => by cases z), e2, dx, fs, g.hh _ _ (ne_of e3 hH (fun z => by cases z)) e3, q'.mono g.bb⟩
      | own qb es' =>
        obtain ⟨r, zs, e', e1, e2, e3, q', qq⟩ := h2
        have nr : r ≠ p := fun z => by
          subst z
          rw [e'] at h1
          exact E.ne i j r qa qb cs es' hj hi hs hp h1
        exact ⟨r, zs, e', g.nb r e1 (by rw [e3]; exact fun z => by cases z), e2, g.hh _ _ nr e3, q'.mono g.bb, qq⟩
  · have key : ∀ (c : Nat) qc fs, (ρ.set i (.own qa cs'))[c]? = some (.own qc fs) → ∃ qd fs', ρ[c]? = some (.own qd fs') := fun c qc fs hc => by
      by_cases z : i = c
      · subst z; exact ⟨qa, cs, hi⟩
      · rw [List.getElem?_set_ne z] at hc; exact ⟨qc, fs, hc⟩
    obtain ⟨g1, f1, k1⟩ := key a q1 fs ha
    obtain ⟨g2, f2, k2⟩ := key b q2 gs hb'
    exact E.ne a b r g1 g2 f1 f2 hab k1 k2
end
section
variable {T : TL} {E : XK} {ρ ρ1 : List Sl} {d : PyData} {ds cs0 cs cs' : List PyData} {ta : TA} {R : List PyData → List PyData → Res → List PyData → Prop} {i : Nat}
/-- f(own, ..) -/
theorem ee_callO {qa qb : Option Addr} (h0 : ρ[i]? = some (.own qa cs0)) (h : EA T ta ρ ds ρ1) (h1 : ρ1[i]? = some (.own qb cs)) (hR : R cs ds (.ok d) cs') : EE T (tCall (spO R) [] E (tCons (tVar i) ta)) ρ d (ρ1.set i (.own qb cs')) := fun F W B H σ Q Ev k => by
  obtain ⟨p, xs, e, _⟩ := Ev.own h0
  refine ⟨_, e, h F W B H σ _ Ev fun us B1 H1 e1 E1 q1 => ?_⟩
  obtain ⟨p', ys, f1, f2, f3, f4, f5⟩ := E1.own h1
  rw [e] at f1
  cases f1
  show spO R ((V.ref p :: us) ++ []) H1 Q E
  rw [List.append_nil]
  exact ⟨B1, p, us, ys, cs, ds, .ok d, cs', rfl, E1.bh, E1.bt, f2, f4, f5, q1, hR, fun v B' H' zs g hz q q' => k v B' H' (e1.trans g.bb) (E1.growO h1 e g hz q) q'⟩
end
def slotsO (p : Addr) (n : Nat) (cs ds : List PyData) : List Sl := .own (some p) cs :: (ds.map Sl.dat ++ List.replicate (n - (ds.length + 1)) .no)
def AnswersO (p : Addr) (cs' : List PyData) : Res → Out → Prop
  | .ok d, .rt d' ρ => d = d' ∧ ρ[0]? = some (.own (some p) cs')
  | .ok d, .nx ρ => d = .none ∧ ρ[0]? = some (.own (some p) cs')
  | .ex C, .ex C' ρ => C = C' ∧ ρ[0]? = some (.own (some p) cs')
  | _, _ => False
theorem startO_env {N : List Str} {p : Addr} {us : List V} {xs : List V} {cs ds : List PyData} {B H : Hp} (hB : Ex B H) (hb : ∀ p ps, B p ≠ some (.tbl ps)) (hp : B p = none) (hH : H p = some (.lst xs)) (qx : DtAll B xs cs) (q : DtAll B us ds) :
    Env [] (fun a => if a = p then none else H a) (fun a => a ≠ p ∧ H a ≠ none ∧ B a = none) B H (L2.start N (.ref p :: us)) (slotsO p N.length cs ds) where
  fh := fun a o ha => by
    by_cases z : a = p
    · simp [z] at ha
    · simpa [z] using ha
  bh := hB
  wf := fun a ha => by simp [ha.1]; exact ha.2.1
  wb := fun a ha => ha.2.2
  tb := fun p hp => by cases hp
  ft := fun h => absurd rfl h
  bt := hb
  ln := by unfold L2.start slotsO; simp [q.length]
  sl := fun i s hs => by
    unfold slotsO at hs
    unfold L2.start
    cases i with
    | zero =>
      simp at hs
      subst hs
      exact ⟨some (.ref p), rfl, p, xs, rfl, hp, by simp, hH, qx, fun a z => by cases z; rfl⟩
    | succ i =>
      have hs : (ds.map Sl.dat ++ List.replicate (N.length - (ds.length + 1)) Sl.no)[i]? = some s := by simpa using hs
      show ∃ o, (us.map some ++ List.replicate (N.length - (us.length + 1)) none)[i]? = some o ∧ _
      by_cases hi : i < ds.length
      · rw [List.getElem?_append_left (by simpa using hi)] at hs
        rw [List.getElem?_append_left (by simpa [q.length] using hi)]
        rw [List.getElem?_map] at hs ⊢
        cases e : ds[i]? with
        | none => rw [e] at hs; cases hs
        | some d =>
          rw [e] at hs
          cases hs
          obtain ⟨v, h1, h2⟩ := q.get e
          exact ⟨some v, by rw [h1]; rfl, v, rfl, h2⟩
      · rw [List.getElem?_append_right (by simpa using hi)] at hs
        rw [List.getElem?_append_right (by simpa [q.length] using hi)]
        rw [List.getElem?_replicate] at hs ⊢
        simp only [List.length_map, q.length] at hs ⊢
        split at hs
        · rename_i h
          cases hs
          exact ⟨none, by rw [if_pos h], trivial⟩
        · cases hs
  ne := fun i j r q1 q2 es fs hij hi hj => by
    have only : ∀ (k : Nat) qc gs, (slotsO p N.length cs ds)[k]? = some (.own qc gs) → k = 0 := fun k qc gs hk => by
      cases k with
      | zero => rfl
      | succ k =>
        unfold slotsO at hk
        have hk : (ds.map Sl.dat ++ List.replicate (N.length - (ds.length + 1)) Sl.no)[k]? = some (Sl.own qc gs) := by simpa using hk
        by_cases hl : k < ds.length
        · rw [List.getElem?_append_left (by simpa using hl), List.getElem?_map] at hk
          cases e : ds[k]? with
          | none => rw [e] at hk; cases hk
          | some d => rw [e] at hk; cases hk
        · rw [List.getElem?_append_right (by simpa using hl), List.getElem?_replicate] at hk
          split at hk <;> cases hk
    exact absurd ((only i q1 es hi).trans (only j q2 fs hj).symm) hij
theorem endO_grow {p : Addr} {B H B' H' : Hp} {σ : Sigma} {ρ : List Sl} (hB : Ex B H) (e : Ex B B') (E : Env [] (fun a => if a = p then none else H a) (fun a => a ≠ p ∧ H a ≠ none ∧ B a = none) B' H' σ ρ) (hp' : B' p = none) : GrowO p B H B' H' :=
  ⟨e, E.bh, fun a o ha h => E.fh a o (by simp [ha, h]), fun a h1 h2 => by
    by_cases z : a = p
    · rw [z]; exact hp'
    · exact E.wb a ⟨z, h2, h1⟩, fun _ => E.bt⟩
section
variable {P : Program} {w : World} {K : PySem.W.Frag} {mg : Str → Option Value} {base : Heap}
theorem calO {x : Str} {st : Stmt} {N ps : List Str} {k : Nat} {R : List PyData → List PyData → Res → List PyData → Prop} (F : Fn K mg x st) (S : FnScope N ps (defScope st)) (hbind : BindsAs x st ps) (hl : ∀ cs ds r cs', R cs ds r cs' → ds.length + 1 = ps.length)
    (hb : ∀ (f : Addr) (cdv : Value) (A : Around) (outer : List PySem.Env) (s : Shared) (H : Hp) (E : XK), Room k (A.deeper (envOfC x (defScope st) s.heap.objs.size f cdv)) →
      ∃ t, PSs (cxOf (L2N.CX P w) P w K mg base N x (defScope st) f cdv A outer s H E).nox (defBody st) t ∧ ∀ p cs ds r cs', R cs ds r cs' → ∃ o, SS [] E t (slotsO p N.length cs ds) o ∧ AnswersO p cs' r o) :
    Cal P w K mg base (k + 1) x ps (spO R) := by
  obtain ⟨f, fd, Fu, hm⟩ := F.ex
  refine ⟨f, fd, Fu.okN S (fun vs H Q E h => ?_) (fun cdv A outer s H vs Q E hr h => ?_), hm, Fu.kp, Fu.binds hbind⟩
  · obtain ⟨B, p, us, xs, cs, ds, r, cs', rfl, _, _, _, _, _, q, hR, _⟩ := h
    rw [List.length_cons, q.length]; exact hl cs ds r cs' hR
  · obtain ⟨t, ht, hs⟩ := hb f cdv A outer s H E hr
    refine ⟨t, ht.nox, ?_⟩
    obtain ⟨B, p, us, xs, cs, ds, r, cs', rfl, hB, hbt, hp, hH, qx, q, hR, k⟩ := h
    obtain ⟨o, ho, ha⟩ := hs p cs ds r cs' hR
    refine ho _ _ _ B H _ (startO_env hB hbt hp hH qx q) ?_
    have fin : ∀ {σ' : Sigma} {B' H' : Hp} {ρ' : List Sl}, Ex B B' → Env [] (fun a => if a = p then none else H a) (fun a => a ≠ p ∧ H a ≠ none ∧ B a = none) B' H' σ' ρ' → ρ'[0]? = some (.own (some p) cs') → GrowO p B H B' H' ∧ ∃ ys, H' p = some (.lst ys) ∧ DtAll B' ys cs' := fun {σ' B' H' ρ'} e E' h0 => by
      obtain ⟨p', ys, f1, f2, f3, f4, f5⟩ := E'.own h0
      have f6 := E'.ownAt h0
      rw [f1] at f6
      cases f6
      exact ⟨endO_grow hB e E' f2, ys, f4, f5⟩
    cases r with
    | ok d =>
      cases o with
      | rt d' ρ' =>
        obtain ⟨e, h0⟩ := (ha : d = d' ∧ ρ'[0]? = some (.own (some p) cs'))
        subst e
        exact fun v σ' B' H' e E' q' => by
          obtain ⟨g, ys, a1, a2⟩ := fin e E' h0
          exact k v B' H' ys g a1 a2 q'
      | nx ρ' =>
        obtain ⟨e, h0⟩ := (ha : d = .none ∧ ρ'[0]? = some (.own (some p) cs'))
        subst e
        exact fun σ' B' H' e E' => by
          obtain ⟨g, ys, a1, a2⟩ := fin e E' h0
          exact k .non B' H' ys g a1 a2 .non
      | ex C ρ' => exact ha.elim
    | ex C =>
      cases o with
      | rt d' ρ' => exact ha.elim
      | nx ρ' => exact ha.elim
      | ex C' ρ' =>
        obtain ⟨e, h0⟩ := (ha : C = C' ∧ ρ'[0]? = some (.own (some p) cs'))
        subst e
        exact fun σ' B' H' e E' => by
          obtain ⟨g, ys, a1, a2⟩ := fin e E' h0
          exact k B' H' ys g a1 a2
end
end DL
namespace DL
open PySem L2
/-- a loop by what was taken -/
theorem forR_pre' {α : Type} {P : PyData → List Sl → Out → Prop} (enc : α → PyData) (ρ : List α → List Sl) : ∀ (xs pre : List α), (∀ pr x post, xs = pr ++ x :: post → P (enc x) (ρ (pre ++ pr)) (.nx (ρ (pre ++ pr ++ [x])))) → ForR P (xs.map enc) (ρ pre) (.nx (ρ (pre ++ xs)))
  | [], pre, _ => by rw [List.append_nil]; exact .nil
  | x :: xs, pre, h => by
    have h1 := h [] x xs rfl
    rw [List.append_nil] at h1
    have h2 := forR_pre' enc ρ xs (pre ++ [x]) fun pr y post e => by
      have := h (x :: pr) y post (by rw [e]; rfl)
      have e1 : pre ++ [x] ++ pr = pre ++ x :: pr := by simp
      rw [e1]
      exact this
    have e : pre ++ x :: xs = pre ++ [x] ++ xs := by simp
    rw [e]
    exact .next h1 h2
theorem forR_pre {α : Type} {P : PyData → List Sl → Out → Prop} (enc : α → PyData) (ρ : List α → List Sl) (xs : List α) (h : ∀ pr x post, xs = pr ++ x :: post → P (enc x) (ρ pr) (.nx (ρ (pr ++ [x])))) : ForR P (xs.map enc) (ρ []) (.nx (ρ xs)) :=
  forR_pre' enc ρ xs [] fun pr x post e => by rw [List.nil_append]; exact h pr x post e
/-- a comprehension that changes the names' values turn by turn -/
theorem lcr_pre' {α : Type} {P : PyData → List Sl → List PyData → List Sl → Prop} (enc : α → PyData) (ρ : List α → List Sl) (f : List α → α → List PyData) : ∀ (xs pre : List α), (∀ pr x post, xs = pr ++ x :: post → P (enc x) (ρ (pre ++ pr)) (f (pre ++ pr) x) (ρ (pre ++ pr ++ [x]))) →
    ∃ es, LcR P (xs.map enc) (ρ pre) es (ρ (pre ++ xs)) ∧ ∀ (g : List α → List PyData), (∀ pr x post, xs = pr ++ x :: post → g (pre ++ pr ++ [x]) = g (pre ++ pr) ++ f (pre ++ pr) x) → g (pre ++ xs) = g pre ++ es
  | [], pre, _ => ⟨[], by rw [List.append_nil]; exact .nil, fun g _ => by simp⟩
  | x :: xs, pre, h => by
    have h1 := h [] x xs rfl
    rw [List.append_nil] at h1
    obtain ⟨es, h2, h3⟩ := lcr_pre' enc ρ f xs (pre ++ [x]) fun pr y post e => by
      have := h (x :: pr) y post (by rw [e]; rfl)
      have e1 : pre ++ [x] ++ pr = pre ++ x :: pr := by simp
      rw [e1]
      exact this
    have e : pre ++ x :: xs = pre ++ [x] ++ xs := by simp
    refine ⟨f pre x ++ es, by rw [e]; exact .cons h1 h2, fun g hg => ?_⟩
    have g1 := h3 g fun pr y post e => by
      have := hg (x :: pr) y post (by rw [e]; rfl)
      have e1 : pre ++ [x] ++ pr = pre ++ x :: pr := by simp
      rw [e1]
      exact this
    have g0 := hg [] x xs rfl
    rw [List.append_nil] at g0
    rw [e, g1, g0, List.append_assoc]
theorem lcr_pre {α : Type} {P : PyData → List Sl → List PyData → List Sl → Prop} (enc : α → PyData) (ρ : List α → List Sl) (g : List α → List PyData) (xs : List α) (h0 : g [] = []) (h : ∀ pr x post, xs = pr ++ x :: post → ∃ es, g (pr ++ [x]) = g pr ++ es ∧ P (enc x) (ρ pr) es (ρ (pr ++ [x]))) : LcR P (xs.map enc) (ρ []) (g xs) (ρ xs) := by
  obtain ⟨es, h1, h2⟩ := lcr_pre' enc ρ (fun pr x => (g (pr ++ [x])).drop (g pr).length) xs [] fun pr x post e => by
    obtain ⟨es, e1, e2⟩ := h pr x post e
    rw [List.nil_append]
    show P (enc x) (ρ pr) ((g (pr ++ [x])).drop (g pr).length) (ρ (pr ++ [x]))
    rw [e1, List.drop_left]
    exact e2
  have e := h2 g fun pr x post e => by
    obtain ⟨es, e1, _⟩ := h pr x post e
    rw [List.nil_append, e1, List.drop_left]
  rw [List.nil_append, h0, List.nil_append] at e
  rw [e]
  exact h1
theorem atI_zero {α : Type} (x : α) (xs : List α) : atI (x :: xs) 0 = some x := by
  unfold atI ixN
  rw [if_pos (by decide), if_pos (by simp only [List.length_cons]; omega)]
  rfl
theorem atI_one {α : Type} (x y : α) (xs : List α) : atI (x :: y :: xs) 1 = some y := by
  unfold atI ixN
  rw [if_pos (by decide), if_pos (by simp only [List.length_cons]; omega)]
  rfl
end DL
namespace DL
open PySem L2
section
variable {T : TL} {te tl : TE} {tt : TT} {ρ ρ1 : List Sl} {ds es : List PyData} {g : TG} {vs : List Nat} {K : PySem.W.Frag}
theorem el_lcTp (h : EE T tl ρ (.tuple ds) ρ1) (R : LcR (LcT T g tt te vs) ds ρ1 es ρ1) (hl : es.length ≤ 100000) : EL T (tLc (iTup K tl) g tt te vs) ρ es ρ1 := el_lcT h R hl
theorem el_lcLp (h : EE T tl ρ (.list ds) ρ1) (R : LcR (LcT T g tt te vs) ds ρ1 es ρ1) (hl : es.length ≤ 100000) : EL T (tLc (iList K tl) g tt te vs) ρ es ρ1 := el_lcL h R hl
theorem el_lcR1p {ta : TA} {n : Int} (h : EA T ta ρ [.int n] ρ1) (hn : -100000 ≤ n ∧ n ≤ 100000) (R : LcR (LcT T g tt te vs) ((ri 0 n.toNat).map PyData.int) ρ1 es ρ1) (hl : es.length ≤ 100000) : EL T (tLc (iRng1 ta) g tt te vs) ρ es ρ1 := el_lcR1 h hn (by rw [rng_ri]; exact R) hl
theorem el_lcR2p {ta : TA} {lo n : Int} (h : EA T ta ρ [.int lo, .int n] ρ1) (hlo : -100000 ≤ lo ∧ lo ≤ 100000) (hn : -100000 ≤ n ∧ n ≤ 100000) (R : LcR (LcT T g tt te vs) ((ri lo (n - lo).toNat).map PyData.int) ρ1 es ρ1) (hl : es.length ≤ 100000) : EL T (tLc (iRng2 ta) g tt te vs) ρ es ρ1 := el_lcR2 h hlo hn (by rw [rng_ri]; exact R) hl
theorem ss_forR1i {X : XK} {t : TS} {o : Out} {ta : TA} {n : Int} (h : EA T ta ρ [.int n] ρ1) (hn : -100000 ≤ n ∧ n ≤ 100000) (R : ForR (TurnD T X g t) ((ri 0 n.toNat).map PyData.int) ρ1 o) : SS T X (tFor (iRng1 ta) g t) ρ o := ss_forR1 h hn (by rw [rng_ri]; exact R)
theorem ss_forR2i {X : XK} {t : TS} {o : Out} {ta : TA} {lo n : Int} (h : EA T ta ρ [.int lo, .int n] ρ1) (hl : -100000 ≤ lo ∧ lo ≤ 100000) (hn : -100000 ≤ n ∧ n ≤ 100000) (R : ForR (TurnD T X g t) ((ri lo (n - lo).toNat).map PyData.int) ρ1 o) : SS T X (tFor (iRng2 ta) g t) ρ o := ss_forR2 h hl hn (by rw [rng_ri]; exact R)
end
end DL
namespace DL
open PySem L2 PyProof.Rows
open Evl (Ex)
/-! ### the script, the rounds, the law's outermost loop -/
/-- _law_cell(script, k): some int -/
def spCellU (K : PySem.W.Frag) : Sp := fun vs H Q _ => ∃ (a : Addr) (ns : List Int) (k : Int), vs = [.ref a, .int k] ∧ SqL K H a (ns.map V.int) ∧ ns.length ≤ 63 ∧ 0 ≤ k ∧ k ≤ 100 ∧ ∀ c H', Ex H H' → Q (.int c) H'
/-- _law_rounds(script, most): new lists [c, 0] in a new list -/
def spRounds (K : PySem.W.Frag) : Sp := fun vs H Q _ => ∃ (a : Addr) (ns : List Int) (m : Int), vs = [.ref a, .int m] ∧ SqL K H a (ns.map V.int) ∧ ns.length ≤ 63 ∧ 1 ≤ m ∧ m ≤ 10 ∧
  ∀ (p : Addr) (ps : List Addr) (H' : Hp), Ex H H' → H' p = some (.lst (ps.map V.ref)) → ps.Nodup → (∀ q ∈ ps, q ≠ p ∧ ∃ c : Int, H' q = some (.lst [.int c, .int 0])) → Q (.ref p) H'
theorem dp_ints {K : PySem.W.Frag} {H : Hp} : ∀ ns : List Int, DpAll K H (ns.map V.int) (ns.map PyData.int)
  | [] => .nil
  | n :: ns => .cons (.int n) (dp_ints ns)
/-- the law's promise -/
def spLaw (K : PySem.W.Frag) (T : TL) : Sp := fun vs H Q _ => ∃ (a : Addr) (ns : List Int), vs = [.ref a] ∧ SqL K H a (ns.map V.int) ∧ ns.length ≤ 63 ∧ LamX.Tabs T H ∧ ∀ H', Q (.bl true) H'
theorem law_reads {K : PySem.W.Frag} {T : TL} {N : List Str} {n : Nat} {m : Int} {tb : TS} {vs : List V} {H : Hp} {Q : VK} {E E' : XK} (hN : N.length = n + 2) (hm : 1 ≤ m ∧ m ≤ 10)
    (hb : ∀ (X : XK) (p : Addr) (c : Int), ∃ ρ', ρ'.length = n + 2 ∧ SS T X tb (.no :: .own (some p) [.int c, .int 0] :: List.replicate n .no) (.nx ρ')) (h : spLaw K T vs H Q E') :
    tSeq (tFor (iList K (tCall (spRounds K) [] E (tCons (tVar 0) (tCons (tC (.int m)) tNil)))) (gName 1) tb) (tRet (tC (.bl true))) { nx := fun _ H' => Q .non H', rt := Q } (L2.start N vs) H := by
  classical
  obtain ⟨a, ns, rfl, hs, hl, ht, k⟩ := h
  refine ⟨.ref a, rfl, a, ns, m, rfl, hs, hl, hm.1, hm.2, fun p ps H1 e1 hp hnd hq => ?_⟩
  refine ⟨p, rfl, ⟨_, SqL.of hp⟩, for_list (xs := ps.map V.ref) (fun i σ H' => σ.length = n + 2 ∧ H' p = some (.lst (ps.map V.ref)) ∧ (∀ (j : Nat) q, i ≤ j → ps[j]? = some q → ∃ c : Int, H' q = some (.lst [.int c, .int 0])) ∧ LamX.Tabs T H')
    ⟨by unfold L2.start; simp [hN], hp, fun j q _ hj => (hq q (List.mem_of_getElem? hj)).2, ht.ext e1⟩ (fun i σ H' _ h => SqL.of h.2.1) (fun i x σ H' hx h => ?_) (fun σ H' h => k H')⟩
  obtain ⟨hσ, hp', hrest, htab⟩ := h
  rw [List.getElem?_map] at hx
  cases hpi : ps[i]? with
  | none => rw [hpi] at hx; cases hx
  | some q =>
    rw [hpi] at hx
    cases hx
    obtain ⟨c, hc⟩ := hrest i q (Nat.le_refl _) hpi
    have qp : q ≠ p := (hq q (List.mem_of_getElem? hpi)).1
    obtain ⟨ρ', hlen, hss⟩ := hb (fun _ _ _ => False) q c
    have hlt : i < ps.length := (List.getElem?_eq_some_iff.mp hpi).1
    -- the frame of this turn: the list of rounds, the later rounds
    have later : ∀ (j : Nat) r, i < j → ps[j]? = some r → r ≠ q := fun j r hj hr z => by
      subst z
      have := (List.getElem?_inj hlt hnd).mp (hpi.trans hr.symm)
      omega
    refine hss (fun b => if b = p ∨ ∃ j, i < j ∧ ps[j]? = some b then H' b else none) (fun b => b = p ∨ ∃ j, i < j ∧ ps[j]? = some b) _ (fun _ => none) H' (σ.set 1 (some (.ref q))) ?_ ?_
    · refine ⟨fun b o hb => ?_, fun b o hb => ?_, fun b hb => ?_, fun _ _ => rfl, htab, fun _ b qs => ?_, fun _ _ z => (by cases z), by simp [hσ], fun j s hj => ?_, fun j k r q1 q2 es fs hjk h1 h2 => ?_⟩
      · by_cases z : b = p ∨ ∃ j, i < j ∧ ps[j]? = some b
        · rw [if_pos z] at hb; exact hb
        · rw [if_neg z] at hb; cases hb
      · cases hb
      · rw [if_pos hb]
        rcases hb with rfl | ⟨j, hj, hr⟩
        · rw [hp']; exact fun z => by cases z
        · obtain ⟨c', hc'⟩ := hrest j b (Nat.le_of_lt hj) hr
          rw [hc']; exact fun z => by cases z
      · by_cases z : b = p ∨ ∃ j, i < j ∧ ps[j]? = some b
        · rw [if_pos z]
          rcases z with rfl | ⟨j, hj, hr⟩
          · rw [hp']; exact fun z => by cases z
          · obtain ⟨c', hc'⟩ := hrest j b (Nat.le_of_lt hj) hr
            rw [hc']; exact fun z => by cases z
        · rw [if_neg z]; exact fun z => by cases z
      · cases j with
        | zero =>
          simp at hj
          subst hj
          exact ⟨(σ.set 1 (some (.ref q)))[0]'(by simp; omega), List.getElem?_eq_getElem _, trivial⟩
        | succ j =>
          cases j with
          | zero =>
            simp at hj
            subst hj
            refine ⟨some (.ref q), List.getElem?_set_self (by omega), q, [.int c, .int 0], rfl, rfl, ?_, hc, .cons (.int _) (.cons (.int _) .nil), fun a z => by cases z; rfl⟩
            show (if q = p ∨ ∃ j, i < j ∧ ps[j]? = some q then H' q else none) = none
            rw [if_neg]
            rintro (z | ⟨j, hj, hr⟩)
            · exact qp z
            · exact later j q hj hr rfl
          | succ j =>
            have hj' : (List.replicate n Sl.no)[j]? = some s := by simpa using hj
            rw [List.getElem?_replicate] at hj'
            split at hj'
            · rename_i hjn
              cases hj'
              exact ⟨(σ.set 1 (some (.ref q)))[j + 1 + 1]'(by simp; omega), List.getElem?_eq_getElem _, trivial⟩
            · cases hj'
      · have only : ∀ (u : Nat) qc gs, (Sl.no :: Sl.own (some q) [.int c, .int 0] :: List.replicate n Sl.no)[u]? = some (.own qc gs) → u = 1 := fun u qc gs hu => by
          cases u with
          | zero => simp at hu
          | succ u =>
            cases u with
            | zero => rfl
            | succ u =>
              have hu' : (List.replicate n Sl.no)[u]? = some (.own qc gs) := by simpa using hu
              rw [List.getElem?_replicate] at hu'
              split at hu' <;> cases hu'
        exact absurd ((only j q1 es h1).trans (only k q2 fs h2).symm) hjk
    · intro σ' B' H2 eB E2
      refine ⟨E2.ln.trans hlen, E2.fh p _ (by rw [if_pos (.inl rfl)]; exact hp'), fun j r hj hr => ?_, E2.tb⟩
      obtain ⟨c', hc'⟩ := hrest j r (by omega) hr
      exact ⟨c', E2.fh r _ (by rw [if_pos (.inr ⟨j, by omega, hr⟩)]; exact hc')⟩
end DL
namespace DL
theorem Weaker.all {ρ : List Sl} {n : Nat} (h : ρ.length = n) : Weaker ρ (List.replicate n .no) := ⟨by simp [h], fun i s hs => .inl (by rw [List.getElem?_replicate] at hs; split at hs <;> simp_all)⟩
end DL
namespace DL
open PySem L2 PyProof.Rows PySem.Spec
open Evl (Ex)
section
variable {X : Cx}
theorem cr_range1 : CallR X (.type "range") (fun vs H Q => ∃ j, vs = [V.int j] ∧ ∀ p, H p = none → Q (.ref p) (upd H p (.rng 0 j))) := by
  intro pins s σ H vs us Q I r h
  obtain ⟨j, rfl, q⟩ := h
  obtain ⟨u1, rfl, ri⟩ := vals1 r
  obtain ⟨t, rfl⟩ := ri
  refine call_range_1 ⟨.ref s.heap.objs.size, upd H s.heap.objs.size (.rng 0 j), I.laid (fun b o e => Heap.get?_push_of_some _ e) (Nat.le_refl _) ?_, rfl, q _ (I.hok.fresh (Nat.le_refl _))⟩
  exact ⟨_, _, _, Heap.get?_push_size _ rfl⟩
theorem op_notIn_rng : OpR X (compareOp .NotIn) (fun x y H Q => ∃ i a lo hi, x = V.int i ∧ y = V.ref a ∧ H a = some (.rng lo hi) ∧ Q (.bl (!decide (lo ≤ i ∧ i < hi))) H) := by
  intro pins s σ H x y v u Q I rx ry h
  obtain ⟨i, a, lo, hi, rfl, rfl, ha, q⟩ := h
  obtain ⟨k, rfl⟩ := rx
  obtain rfl : u = Value.ref a := ry
  obtain ⟨t1, t2, t3, ho⟩ := I.hok a _ ha
  show wpAny _ _ (do return Value.bool (!(← contains (Value.ref a) (Value.int i k)))) _ _ s
  refine wpAny_bind (wpAny_contains_slot (T := "range") ⟨_, ho, rfl⟩ F.slot_range_contains (call_meets F.slot_range_contains ⟨_, ho, rfl⟩ F.entry_range_contains (F.args_range_contains_2 _ _) (q_contains a lo hi i t1 t2 t3 k)
    ⟨ho, wpAny_truthy_bool (wpAny_pure ⟨.bl _, H, I, rfl, ?_⟩)⟩))
  rw [place1]
  exact q
end
/-- x not in range(n) -/
theorem ee_notInR {T : TL} {ta tb : TE} {ρ ρ1 ρ2 : List Sl} {i n : Int} (ha : EE T ta ρ (.int i) ρ1) (hb : EE T tb ρ1 (.int n) ρ2) :
    EE T (tOp (fun x y H Q => ∃ i a lo hi, x = V.int i ∧ y = V.ref a ∧ H a = some (.rng lo hi) ∧ Q (.bl (!decide (lo ≤ i ∧ i < hi))) H) ta (tCB (fun vs H Q => ∃ j, vs = [V.int j] ∧ ∀ p, H p = none → Q (.ref p) (upd H p (.rng 0 j))) (tCons tb tNil))) ρ (.bool (!decide (0 ≤ i ∧ i < n))) ρ2 := fun F W B H σ Q E k =>
  ha F W B H σ _ E fun v B1 H1 e1 E1 q1 => hb F W B1 H1 σ _ E1 fun u B2 H2 e2 E2 q2 => ⟨n, by rw [q2.inv_int], fun p hp => ⟨i, p, 0, n, q1.inv_int, rfl, upd_same, k _ B2 _ (e1.trans e2) (E2.grow (Grow.junk E2.bh hp)) (.bl _)⟩⟩
end DL
/-! the mirror: what the program's defs compute, over plain data -/
namespace U
open PySem L2 DL
def wholeB (d : PyData) (lo hi : Int) : Bool := match d with
  | .int i => decide (lo ≤ i) && decide (i ≤ hi)
  | _ => false
def pairB (d : PyData) (hi : Int) : Bool := match d with
  | .tuple [.int a, .int b] => (decide (0 ≤ a) && decide (a ≤ hi)) && ((decide (0 ≤ b) && decide (b ≤ hi)) && decide (a < b))
  | _ => false
abbrev Wb := Int × List (Int × Int)
/-- ascending -/
def ascB : List (Int × Int) → Bool
  | [] => true
  | [_] => true
  | p :: q :: r => ltPr p q && ascB (q :: r)
def lineB (n : Int) (p : Int × Int) : Bool := (decide (0 ≤ p.1) && decide (p.1 ≤ n - 1)) && ((decide (0 ≤ p.2) && decide (p.2 ≤ n - 1)) && decide (p.1 < p.2))
def okW (w : Wb) : Bool := (decide (1 ≤ w.1) && decide (w.1 ≤ 6)) && (w.2.all (lineB w.1) && ascB w.2)
/-- a datum as a pair, as pairs -/
def asP : PyData → Option (Int × Int)
  | .tuple [.int a, .int b] => some (a, b)
  | _ => none
def asPs : List PyData → Option (List (Int × Int))
  | [] => some []
  | d :: ds => match asP d, asPs ds with
    | some p, some ps => some (p :: ps)
    | _, _ => none
def asW : PyData → Option Wb
  | .tuple [.int n, .tuple ds] => (asPs ds).map fun ps => (n, ps)
  | _ => none
def webB (d : PyData) : Bool := match asW d with
  | some w => okW w
  | none => false
theorem asP_eq {d : PyData} {p : Int × Int} (h : asP d = some p) : d = eP p := by
  unfold asP at h
  split at h
  · cases h; rfl
  · cases h
theorem asP_eP (p : Int × Int) : asP (eP p) = some p := rfl
theorem asPs_eq : ∀ {ds : List PyData} {ps : List (Int × Int)}, asPs ds = some ps → ds = ps.map eP
  | [], ps, h => by cases h; rfl
  | d :: ds, ps, h => by
    unfold asPs at h
    split at h
    · rename_i p qs h1 h2
      cases h
      rw [asP_eq h1, asPs_eq h2]
      rfl
    · cases h
theorem asPs_map : ∀ (ps : List (Int × Int)), asPs (ps.map eP) = some ps
  | [] => rfl
  | p :: ps => by
    show (match asP (eP p), asPs (ps.map eP) with | some p, some ps => some (p :: ps) | _, _ => none) = _
    rw [asP_eP, asPs_map ps]
theorem asW_eq {d : PyData} {w : Wb} (h : asW d = some w) : d = eW w := by
  unfold asW at h
  split at h
  · rename_i n ds
    cases e : asPs ds with
    | none => rw [e] at h; cases h
    | some ps =>
      rw [e] at h
      cases h
      rw [asPs_eq e]
  · cases h
theorem asW_eW (w : Wb) : asW (eW w) = some w := by
  show (asPs (w.2.map eP)).map (fun ps => (w.1, ps)) = some w
  rw [asPs_map]
  rfl
theorem webB_eW (w : Wb) : webB (eW w) = okW w := by unfold webB; rw [asW_eW]
theorem webB_iff {d : PyData} : webB d = true ↔ ∃ w, d = eW w ∧ okW w = true := by
  unfold webB
  constructor
  · intro h
    cases e : asW d with
    | none => rw [e] at h; cases h
    | some w => rw [e] at h; exact ⟨w, asW_eq e, h⟩
  · rintro ⟨w, rfl, h⟩
    rw [asW_eW]
    exact h
/-- what an ok web keeps -/
structure GoodW (w : Wb) : Prop where
  lo : 1 ≤ w.1
  hi : w.1 ≤ 6
  line : ∀ p ∈ w.2, 0 ≤ p.1 ∧ p.1 < p.2 ∧ p.2 < w.1
  asc : ascB w.2 = true
theorem good_of {w : Wb} (h : okW w = true) : GoodW w := by
  unfold okW at h
  simp only [Bool.and_eq_true, decide_eq_true_eq, List.all_eq_true] at h
  refine ⟨h.1.1, h.1.2, fun p hp => ?_, h.2.2⟩
  have := h.2.1 p hp
  unfold lineB at this
  simp only [Bool.and_eq_true, decide_eq_true_eq] at this
  omega
theorem ok_of {w : Wb} (h : GoodW w) : okW w = true := by
  unfold okW
  simp only [Bool.and_eq_true, decide_eq_true_eq, List.all_eq_true]
  refine ⟨⟨h.lo, h.hi⟩, fun p hp => ?_, h.asc⟩
  have := h.line p hp
  unfold lineB
  simp only [Bool.and_eq_true, decide_eq_true_eq]
  omega
/-- a tuple of different ints from 0 to a top, at most so many -/
def asIs : List PyData → Option (List Int)
  | [] => some []
  | .int i :: ds => (asIs ds).map fun l => i :: l
  | _ :: _ => none
theorem asIs_eq : ∀ {ds : List PyData} {ns : List Int}, asIs ds = some ns → ds = ns.map PyData.int
  | [], ns, h => by cases h; rfl
  | d :: ds, ns, h => by
    cases d with
    | int i =>
      unfold asIs at h
      cases e : asIs ds with
      | none => rw [e] at h; cases h
      | some l => rw [e] at h; cases h; rw [asIs_eq e]; rfl
    | _ => simp [asIs] at h
theorem asIs_map : ∀ (ns : List Int), asIs (ns.map PyData.int) = some ns
  | [] => rfl
  | n :: ns => by show (asIs (ns.map PyData.int)).map _ = _; rw [asIs_map ns]; rfl
def rangeB (top : Int) (n : Int) : Bool := decide (0 ≤ n) && decide (n ≤ top)
def unlikeN (ns : List Int) (most top : Int) : Bool := decide ((ns.length : Int) ≤ most) && (ns.all (rangeB top) && decide (dcount ns = ns.length))
def unlikeB (d : PyData) (most top : Int) : Bool := match d with
  | .tuple ds => (match asIs ds with | some ns => unlikeN ns most top | none => false)
  | _ => false
def fitsN (w : Wb) (top : Int) (ns : List Int) : Bool := unlikeN ns w.1 top && decide ((ns.length : Int) = w.1)
def fitsB (w : Wb) (top : Int) (d : PyData) : Bool := match d with
  | .tuple ds => (match asIs ds with | some ns => fitsN w top ns | none => false)
  | _ => false
def topW (w : Wb) : Int := w.2.length
/-- the number at a place -/
def at0 (ns : List Int) (i : Int) : Int := ns.getD i.toNat 0
def linesN (w : Wb) (ns : List Int) : List Int := w.2.map fun p => iabs (at0 ns p.1 - at0 ns p.2)
def differN (w : Wb) (ns : List Int) : Bool := decide (dcount (linesN w ns) = w.2.length)
def flipN (w : Wb) (ns : List Int) : List Int := ns.map fun n => topW w - n
theorem unlikeB_eT (ns : List Int) (m t : Int) : unlikeB (eT ns) m t = unlikeN ns m t := by
  show (match asIs (ns.map PyData.int) with | some ns => unlikeN ns m t | none => false) = _
  rw [asIs_map]
theorem fitsB_eT (w : Wb) (t : Int) (ns : List Int) : fitsB w t (eT ns) = fitsN w t ns := by
  show (match asIs (ns.map PyData.int) with | some ns => fitsN w t ns | none => false) = _
  rw [asIs_map]
theorem fitsB_iff {w : Wb} {t : Int} {d : PyData} : fitsB w t d = true ↔ ∃ ns, d = eT ns ∧ fitsN w t ns = true := by
  constructor
  · intro h
    unfold fitsB at h
    split at h
    · rename_i ds
      cases e : asIs ds with
      | none => rw [e] at h; cases h
      | some ns => rw [e] at h; exact ⟨ns, by rw [asIs_eq e], h⟩
    · cases h
  · rintro ⟨ns, rfl, h⟩
    rw [fitsB_eT]; exact h
structure FitsN (w : Wb) (t : Int) (ns : List Int) : Prop where
  len : (ns.length : Int) = w.1
  rg : ∀ n ∈ ns, 0 ≤ n ∧ n ≤ t
  nd : ns.Nodup
theorem fits_of {w : Wb} {t : Int} {ns : List Int} (h : fitsN w t ns = true) : FitsN w t ns := by
  unfold fitsN unlikeN at h
  simp only [Bool.and_eq_true, decide_eq_true_eq, List.all_eq_true] at h
  refine ⟨h.2, fun n hn => ?_, (dcount_full ns).mp h.1.2.2⟩
  have := h.1.2.1 n hn
  unfold rangeB at this
  simpa using this
theorem of_fits {w : Wb} {t : Int} {ns : List Int} (h : FitsN w t ns) : fitsN w t ns = true := by
  unfold fitsN unlikeN
  simp only [Bool.and_eq_true, decide_eq_true_eq, List.all_eq_true]
  refine ⟨⟨by rw [h.len]; exact Int.le_refl _, fun n hn => ?_, (dcount_full ns).mpr h.nd⟩, h.len⟩
  unfold rangeB
  simpa using h.rg n hn
/-- places of a numbering of the right length -/
theorem at0_ok {ns : List Int} {i : Int} (h0 : 0 ≤ i) (h1 : i < ns.length) : atI (ns.map PyData.int) i = some (.int (at0 ns i)) := by
  obtain ⟨k, rfl⟩ := Int.eq_ofNat_of_zero_le h0
  have hk : k < ns.length := by omega
  unfold atI ixN at0
  rw [List.length_map, if_pos h0, if_pos (by omega)]
  show (ns.map PyData.int)[(k : Int).toNat]? = _
  simp [hk]
end U
namespace U
open PySem L2 DL
/-- not too long -/
def smallW (d : PyData) : Prop := ∀ x es, d = .tuple [x, .tuple es] → es.length ≤ 10000
theorem smallW_eW {w : Wb} (h : w.2.length ≤ 10000) : smallW (eW w) := fun x es e => by
  simp only [eW, PyData.tuple.injEq, List.cons.injEq, and_true] at e
  rw [← e.2]
  simpa using h
theorem webB_tup {d : PyData} (h : isTup d = false) : webB d = false := by cases d <;> first | rfl | cases h
theorem webB_len {xs : List PyData} (h : xs.length ≠ 2) : webB (.tuple xs) = false := by
  cases e : webB (.tuple xs) with
  | false => rfl
  | true =>
    obtain ⟨w, ew, _⟩ := webB_iff.mp e
    simp only [eW, PyData.tuple.injEq] at ew
    rw [ew] at h
    exact absurd rfl h
theorem webB_first {x y : PyData} (h : wholeB x 1 6 = false) : webB (.tuple [x, y]) = false := by
  cases e : webB (.tuple [x, y]) with
  | false => rfl
  | true =>
    obtain ⟨w, ew, ok⟩ := webB_iff.mp e
    simp only [eW, PyData.tuple.injEq, List.cons.injEq, and_true] at ew
    have g := good_of ok
    rw [ew.1] at h
    have : wholeB (.int w.1) 1 6 = true := by unfold wholeB; simp [g.lo, g.hi]
    rw [this] at h
    cases h
theorem webB_second {x y : PyData} (h : isTup y = false) : webB (.tuple [x, y]) = false := by
  cases e : webB (.tuple [x, y]) with
  | false => rfl
  | true =>
    obtain ⟨w, ew, ok⟩ := webB_iff.mp e
    simp only [eW, PyData.tuple.injEq, List.cons.injEq, and_true] at ew
    rw [ew.2] at h
    cases h
theorem pairB_lineB (n : Int) (p : Int × Int) : pairB (eP p) (n - 1) = lineB n p := rfl
theorem pairB_eq {d : PyData} {hi : Int} (h : pairB d hi = true) : ∃ p, d = eP p := by
  unfold pairB at h
  split at h
  · rename_i a b
    exact ⟨(a, b), rfl⟩
  · cases h
theorem pairs_of : ∀ {es : List PyData} {hi : Int}, (∀ d ∈ es, pairB d hi = true) → ∃ ps : List (Int × Int), es = ps.map eP
  | [], _, _ => ⟨[], rfl⟩
  | d :: es, hi, h => by
    obtain ⟨p, rfl⟩ := pairB_eq (h d List.mem_cons_self)
    obtain ⟨ps, rfl⟩ := pairs_of fun e he => h e (List.mem_cons_of_mem _ he)
    exact ⟨p :: ps, rfl⟩
theorem webB_pairs {n : Int} {es : List PyData} (h : (es.map fun d => pairB d (n - 1)).all id = false) : webB (.tuple [.int n, .tuple es]) = false := by
  cases e : webB (.tuple [.int n, .tuple es]) with
  | false => rfl
  | true =>
    obtain ⟨w, ew, ok⟩ := webB_iff.mp e
    simp only [eW, PyData.tuple.injEq, List.cons.injEq, and_true, PyData.int.injEq] at ew
    obtain ⟨e1, e2⟩ := ew
    have : (es.map fun d => pairB d (n - 1)).all id = true := by
      rw [e2, List.map_map, List.all_map, List.all_eq_true]
      intro p hp
      show pairB (eP p) (n - 1) = true
      rw [pairB_lineB, e1]
      unfold okW at ok
      simp only [Bool.and_eq_true, List.all_eq_true] at ok
      exact ok.2.1 p hp
    rw [this] at h
    cases h
theorem webB_last {n : Int} {ps : List (Int × Int)} (h : wholeB (.int n) 1 6 = true) (h2 : ∀ d ∈ ps.map eP, pairB d (n - 1) = true) : webB (.tuple [.int n, .tuple (ps.map eP)]) = ascB ps := by
  show webB (eW (n, ps)) = _
  rw [webB_eW]
  unfold okW wholeB at *
  have h3 : ps.all (lineB n) = true := by
    rw [List.all_eq_true]
    intro p hp
    have := h2 (eP p) (List.mem_map.mpr ⟨p, hp, rfl⟩)
    rw [pairB_lineB] at this
    exact this
  simp only [Bool.and_eq_true, decide_eq_true_eq] at h
  simp [h.1, h.2, h3]
theorem lexLt_two (p q : Int × Int) : HT.lexLt [p.1, p.2] [q.1, q.2] = ltPr p q := by
  unfold HT.lexLt HT.lexLt HT.lexLt ltPr
  by_cases h : p.1 = q.1
  · rw [if_pos h, if_pos h]
    by_cases h2 : p.2 = q.2
    · rw [if_pos h2, h2]; simp
    · rw [if_neg h2]
  · rw [if_neg h, if_neg h]
/-- the pair at a place -/
def pAt (ps : List (Int × Int)) (i : Nat) : Int × Int := ps.getD i (0, 0)
theorem pAt_ok {ps : List (Int × Int)} {i : Nat} (h : i < ps.length) : atI (ps.map eP) ((i : Nat) : Int) = some (eP (pAt ps i)) := by
  unfold atI ixN pAt
  rw [List.length_map, if_pos (by omega), if_pos (by omega)]
  show (ps.map eP)[((i : Nat) : Int).toNat]? = _
  simp [h]
theorem asc_is : ∀ (ps : List (Int × Int)), ((List.range (ps.length - 1)).map fun i => HT.lexLt [(pAt ps i).1, (pAt ps i).2] [(pAt ps (i + 1)).1, (pAt ps (i + 1)).2]).all id = ascB ps
  | [] => rfl
  | [_] => rfl
  | p :: q :: r => by
    have ih := asc_is (q :: r)
    have e : (p :: q :: r).length - 1 = ((q :: r).length - 1) + 1 := by simp
    rw [e, List.range_succ_eq_map, List.map_cons, List.map_map, List.all_cons]
    have e2 : ascB (p :: q :: r) = (ltPr p q && ascB (q :: r)) := rfl
    rw [e2, ← ih]
    congr 1
    exact lexLt_two p q
end U
namespace U
open PySem L2 DL
def toW (d : PyData) : Wb := (asW d).getD (0, [])
theorem toW_eW (w : Wb) : toW (eW w) = w := by unfold toW; rw [asW_eW]; rfl
def toN (d : PyData) : List Int := match d with
  | .tuple ds => (asIs ds).getD []
  | _ => []
theorem toN_eT (ns : List Int) : toN (eT ns) = ns := by show (asIs (ns.map PyData.int)).getD [] = ns; rw [asIs_map]; rfl
abbrev XA := Str → Addr
def needWeb (xa : XA) (d : PyData) : Res := if webB d = true then .ok .none else .ex (xa "InvalidWeb")
def needNum (xa : XA) (d e : PyData) : Res := if webB d = true then (if fitsB (toW d) (topW (toW d)) e = true then .ok .none else .ex (xa "InvalidNumbering")) else .ex (xa "InvalidWeb")
def lineNums (xa : XA) (d e : PyData) : Res := if webB d = true then (if fitsB (toW d) (topW (toW d)) e = true then .ok (eT (linesN (toW d) (toN e))) else .ex (xa "InvalidNumbering")) else .ex (xa "InvalidWeb")
def flipR (xa : XA) (d e : PyData) : Res := if webB d = true then (if fitsB (toW d) (topW (toW d)) e = true then .ok (eT (flipN (toW d) (toN e))) else .ex (xa "InvalidNumbering")) else .ex (xa "InvalidWeb")
def goodB (w : Wb) (e : PyData) : Bool := fitsB w (topW w) e && differN w (toN e)
def goodN (w : Wb) (ns : List Int) : Bool := fitsN w (topW w) ns && differN w ns
def goodR (xa : XA) (d e : PyData) : Res := if webB d = true then .ok (.bool (goodB (toW d) e)) else .ex (xa "InvalidWeb")
def numbR (xa : XA) (d e : PyData) : Res := if webB d = true then .ok (.bool (fitsB (toW d) (topW (toW d)) e)) else .ex (xa "InvalidWeb")
theorem goodB_eT (w : Wb) (ns : List Int) : goodB w (eT ns) = goodN w ns := by unfold goodB goodN; rw [fitsB_eT, toN_eT]
/-- both ends of all lines are places -/
def EndsW (w : Wb) (n : Nat) : Prop := ∀ p ∈ w.2, (0 ≤ p.1 ∧ p.1 < (n : Int)) ∧ (0 ≤ p.2 ∧ p.2 < (n : Int))
theorem ends_of {w : Wb} {t : Int} {ns : List Int} (g : GoodW w) (f : FitsN w t ns) : EndsW w ns.length := fun p hp => by
  have := g.line p hp
  rw [f.len]
  omega
def small (w : Wb) : Prop := w.2.length ≤ 10000
/-- the pairs of a turned copy -/
def ordP (a b : Int) : Int × Int := if a ≤ b then (a, b) else (b, a)
def copyP (w : Wb) (ns : List Int) (turn : Int) : List (Int × Int) :=
  sortP (w.2.map fun p => ordP ((at0 ns p.1 + turn) % (2 * topW w + 1)) ((at0 ns p.2 + turn) % (2 * topW w + 1)))
theorem sort_two (a b : Int) : sortI [a, b] = [(ordP a b).1, (ordP a b).2] := by
  show (if a ≤ b then [a, b] else [b, a]) = _
  unfold ordP
  split <;> rfl
end U
namespace U
open PySem L2 DL
theorem unlikeB_some {xs : List PyData} {ns : List Int} {m t : Int} (e : asIs xs = some ns) : unlikeB (.tuple xs) m t = unlikeN ns m t := by
  show (match asIs xs with | some ns => unlikeN ns m t | none => false) = _
  rw [e]
theorem unlikeB_none {xs : List PyData} {m t : Int} (e : asIs xs = none) : unlikeB (.tuple xs) m t = false := by
  show (match asIs xs with | some ns => unlikeN ns m t | none => false) = _
  rw [e]
end U
namespace U
open PySem L2 DL
def copyR (xa : XA) (d e t : PyData) : Res := if webB d = true then (if fitsB (toW d) (topW (toW d)) e = true then (if wholeB t 0 (2 * topW (toW d)) = true then (if differN (toW d) (toN e) = true then .ok (ePs (copyP (toW d) (toN e) (match t with | .int i => i | _ => 0))) else .ex (xa "NotGood")) else .ex (xa "InvalidNumber")) else .ex (xa "InvalidNumbering")) else .ex (xa "InvalidWeb")
/-- the turns whose copy has the pair -/
def turnsN (w : Wb) (ns : List Int) (p : Int × Int) : List Int := (ri 0 (2 * topW w + 1).toNat).filter fun t => (copyP w ns t).contains p
def zig (n : Int) : List Int := (ri 0 n.toNat).map fun k => if k % 2 = 0 then k / 2 else n - 1 - k / 2
def zigR (xa : XA) (d : PyData) : Res := if wholeB d 1 50 = true then .ok (eT (zig (match d with | .int i => i | _ => 0))) else .ex (xa "InvalidNumber")
/-! ### the law's draws -/
def M1 : Int := 340282366920938463463374607431768211507
def M2 : Int := 340282366920938463463374607431768211297
def M3 : Int := 18446744073709551557
def drawn (c k : Int) : Int :=
  let a := (c * 6364136223846793005 + (k + 1) * 1442695040888963407) % M1
  let b := a * a % M2
  let d := (b % M3 + 1) * (b / M3 + 1) * b
  d % M1
/-- the dice: the cell and how many were drawn -/
abbrev Dc := Int × Int
def eD (s : Dc) : List PyData := [.int s.1, .int s.2]
def rollV (s : Dc) (m : Int) : Int := if 1000000000000000000 ≤ s.1 then s.1 % m else drawn s.1 (s.2 + 1) / 8 % m
def rollS (s : Dc) (m : Int) : Dc := if 1000000000000000000 ≤ s.1 then (s.1 / m, s.2) else (s.1, s.2 + 1)
theorem rollV_lo (s : Dc) {m : Int} (h : 0 < m) : 0 ≤ rollV s m := by
  unfold rollV
  split
  · exact Int.emod_nonneg _ (by omega)
  · exact Int.emod_nonneg _ (by omega)
theorem rollV_hi (s : Dc) {m : Int} (h : 0 < m) : rollV s m < m := by
  unfold rollV
  split
  · exact Int.emod_lt_of_pos _ h
  · exact Int.emod_lt_of_pos _ h
/-- all pairs of so many places -/
def pairsFrom (n one : Int) : List (Int × Int) := (ri (one + 1) (n - (one + 1)).toNat).map fun o => (one, o)
def pairsN (n : Int) : List (Int × Int) := (ri 0 n.toNat).foldl (fun l one => l ++ pairsFrom n one) []
end U
namespace U
open PySem L2 DL
theorem ri_len (lo : Int) (n : Nat) : (ri lo n).length = n := by unfold ri; rw [List.length_map, List.length_range]
theorem mem_ri {lo : Int} {n : Nat} {x : Int} : x ∈ ri lo n ↔ lo ≤ x ∧ x < lo + n := by
  unfold ri
  rw [List.mem_map]
  constructor
  · rintro ⟨i, hi, rfl⟩
    have := List.mem_range.mp hi
    omega
  · rintro ⟨h1, h2⟩
    exact ⟨(x - lo).toNat, List.mem_range.mpr (by omega), by omega⟩
theorem pairsFrom_len (n one : Int) (h1 : n ≤ 100) (h2 : 0 ≤ one) : (pairsFrom n one).length ≤ 100 := by
  unfold pairsFrom
  rw [List.length_map, ri_len]
  omega
theorem fold_pairs_len {n : Int} (h1 : n ≤ 100) : ∀ (pre : List Int) (l : List (Int × Int)), (∀ one ∈ pre, 0 ≤ one) → (pre.foldl (fun l one => l ++ pairsFrom n one) l).length ≤ l.length + 100 * pre.length
  | [], l, _ => by simp
  | o :: pre, l, h => by
    have h2 := fold_pairs_len h1 pre (l ++ pairsFrom n o) fun one ho => h one (List.mem_cons_of_mem _ ho)
    have h3 := pairsFrom_len n o h1 (h o List.mem_cons_self)
    rw [List.foldl_cons]
    simp only [List.length_append, List.length_cons] at h2 ⊢
    omega
end U
namespace U
open PySem L2 DL
/-- the names of a law's loop: the script, the dice, then data in order -/
def lawS (p : Addr) (n : Nat) (D : Dc) (ds : List PyData) : List Sl := .no :: .own (some p) (eD D) :: (ds.map Sl.dat ++ List.replicate (n - ds.length) .no)
theorem webB_true {v : Wb} (h : okW v = true) : webB (eW v) = true := by rw [webB_eW]; exact h
end U
/-! Hot: a list gone through while an exception is handled: sum, a comprehension over it. -/
namespace DL
open PySem PySem.Spec PyProof.Rows L2 HotX
section
variable {prog : Program} {w : World} {A : Around} {E : Value → Shared → Prop} {s : Shared}
theorem hot_not_iter {h : Heap} {x1 it l : Addr} {i : Nat} (hot : HotAt A x1 h) (hit : h.IsListIter it l i) : x1 ≠ it := by
  rintro rfl
  obtain ⟨_, o, vs, e, d, c⟩ := hot
  obtain ⟨o', e', _, d'⟩ := hit
  rw [e] at e'; cases e'
  rw [d] at d'; cases d'
  cases c
theorem next_list_end_hot {it l x1 : Addr} {i : Nat} {items : Array Value} {Q : Option Value → Shared → Prop} (hot : HotAt A x1 s.heap)
    (hit : s.heap.IsListIter it l i) (hl : s.heap.IsList l items) (hx : items[i]? = none)
    (hQ : ∀ h', (∀ b o, b ≠ it → s.heap.get? b = some o → h'.get? b = some o) → Q none { s with heap := h' }) : wpAny (model prog w) A (pyNext (.ref it)) Q E s := by
  have nx := hot_not_iter hot hit
  obtain ⟨hh, o1, vs1, h1, d1, c1⟩ := hot
  obtain ⟨o, ho, hc, hd⟩ := id hit
  obtain ⟨ol, hol, _, nl, hdl⟩ := hl
  unfold pyNext
  refine wpAny_bind (wpAny_attempt (wpAny_callSpecial?_slot (name := Str.ofString "__next__") hit.typeIs slot_listiter_next (wpAny_call_entry slot_listiter_next hit.typeIs entry_listiter_next ?_ (args_listiter_next _))))
  show wpAny _ _ (field (.ref it) 0 >>= _) _ _ s
  refine wpAny_bind (wpAny_field ho hd (x := .ref l) rfl ?_)
  show wpAny _ _ (if (Value.ref l == Value.none) = true then _ else _) _ _ s
  rw [if_neg (show ¬ ((Value.ref l == Value.none) = true) from Bool.false_ne_true)]
  show wpAny _ _ (field (.ref it) 1 >>= _) _ _ s
  refine wpAny_bind (wpAny_field ho hd (x := .int i 0) rfl ?_)
  show wpAny _ _ (seqItems? (.ref l) >>= _) _ _ s
  refine wpAny_bind (wpAny_seqItems hol hdl ?_)
  simp only [Int.toNat_natCast, hx]
  refine wpAny_bind (wpAny_rule (wpAny_bind (wpAny_setField ho hd (by simp) ?_)))
  show wpAny _ _ (newExc (.type "StopIteration") [] >>= _) _ _ _
  refine wpAny_bind ?_
  simp only [newExc, newTuple]
  refine wpAny_bind (wpAny_newObj_type ?_ (by size_fits))
  refine wpAny_bind (m := firstArgMember _ _) (wpAny_of_eq (a := Value.none) (by first | rfl | (simp only [firstArgMember]; rfl)) ?_)
  refine wpAny_newObj_type ?_ (by size_fits)
  have hu := (Heap.get?_update_other s.heap (Obj.mapFields (·.setIfInBounds 0 Value.none)) (Ne.symm nx)).trans h1
  refine raiseNew_hot ⟨hh, o1, vs1, Heap.get?_push_of_some _ (Heap.get?_push_of_some _ hu), d1, c1⟩ (Nat.ne_of_lt (Heap.lt_size (Heap.get?_push_of_some _ hu))) (Heap.get?_push_size _ rfl) rfl (by first | (simp; done) | (simp; omega) | (simp only [Array.size_append]; simp; omega)) ?_
  refine wpAny_bind (wpAny_isInstance (T := "StopIteration") (b := true) ⟨_, Heap.get?_update_self _ (Heap.get?_push_size _ rfl) rfl, rfl⟩ isSubtype_stop ?_)
  refine wpAny_pure (hQ _ fun b u nb e => ?_)
  have e1 := (Heap.get?_update_other s.heap (Obj.mapFields (·.setIfInBounds 0 Value.none)) (Ne.symm nb)).trans e
  rw [Heap.get?_update_other _ _ (Nat.ne_of_gt (Heap.lt_size (Heap.get?_push_of_some _ e1)))]
  exact Heap.get?_push_of_some _ (Heap.get?_push_of_some _ e1)
theorem HotAt.stay {x1 : Addr} {h h' : Heap} (a : HotAt A x1 h) (k : ∀ o, h.get? x1 = some o → h'.get? x1 = some o) : HotAt A x1 h' := by
  obtain ⟨hh, o, vs, e, d, c⟩ := a
  exact ⟨hh, o, vs, k o e, d, c⟩
theorem walks_hot {x1 I ax : Addr} (hne : ax ≠ I) (items : Array Value) :
    Walks prog w A I [I, ax, x1] [I] items.size (fun i v => items[i]? = some v) (fun i h => (h.IsListIter I ax i ∧ h.IsList ax items) ∧ HotAt A x1 h) where
  sub := fun b hb => by simp at hb; simp [hb]
  frame := fun _ _ _ st hk => ⟨⟨st.1.1.at fun o e => hk I (by simp) o e, st.1.2.at fun o e => hk ax (by simp) o e⟩, HotAt.stay st.2 fun o e => hk x1 (by simp) o e⟩
  item := fun i s Q E hi st hQ => by
    refine wpAny_pyNext_list_item st.1.1 st.1.2 (x := items[i]) (by simp [hi]) fun h' hit' hs' => ?_
    exact hQ _ h' s.toks (by simp [hi]) ⟨⟨hit', st.1.2.extBut hs'.extBut hne⟩, HotAt.stay st.2 fun o e => hs'.extBut _ o (hot_not_iter st.2 st.1.1) e⟩ fun b o hb e => hs'.extBut b o (fun h => hb (by simp [h])) e
  done := fun s Q E st hQ => next_list_end_hot st.2 st.1.1 st.1.2 (by simp) fun h' he' => hQ h' s.toks fun b o hb e => he' b o (fun h => hb (by simp [h])) e
  self := fun _ _ _ _ st hQ => wpAny_pyIter_listiter st.1.1 hQ
theorem sum_hot {l x1 : Addr} {its : List Value} {ns : List Int} {Q : Value → Shared → Prop} (hot : HotAt A x1 s.heap) (hl : s.heap.IsList l its.toArray) (hi : IntsAre its ns)
    (h : ∀ h' tk t', (∀ b o, s.heap.get? b = some o → h'.get? b = some o) → Q (.int ns.sum t') { s with heap := h', toks := tk }) : wpAny (model prog w) A (call (.builtin "sum") [.ref l]) Q E s := by
  obtain ⟨xs, e⟩ := hi.allInts.items
  have hn : numsOf (intItems xs).toList = ns := by rw [← e]; exact hi.numsOf
  rw [nums_intItems] at hn
  rw [e] at hl
  refine call_sum_walkG (iter_intList hl fun s₂ e st hfp hlI => ?_)
  subst e
  have hot1 : HotAt A.in1 x1 (s.heap.push { cls := .type "list_iterator", data := .fields #[.ref l, .int 0 0] }) := by
    obtain ⟨hh, o, vs, e, d, c⟩ := hot
    exact ⟨hh, o, vs, Heap.get?_push_of_some _ e, d, c⟩
  refine ⟨_, _, _, _, _, _, numAt xs, rfl, walks_hot (A := A.in1) (x1 := x1) hlI (intItems xs), ⟨st, hot1⟩, fun b hb => ?_, (fun _ _ => intItems_at), fun h' tk t' hk => ?_⟩
  · rcases List.mem_cons.mp hb with e | hb
    · exact hfp b (by simp [e])
    · rcases List.mem_cons.mp hb with e | hb
      · exact hfp b (by simp [e])
      · obtain ⟨_, o, vs, e, _⟩ := hot1
        have : b = x1 := by simpa using hb
        rw [this]; exact Heap.lt_size e
  · have := h h' tk t' (old_kept hk)
    have hl2 : ns.length ≤ xs.size := by rw [← hn]; simp
    rw [preSum_eq] at *
    simpa [intItems, hn, List.take_of_length_le hl2] using this
end
section
variable {X : Cx}
theorem cr_sumH (hc : L2H.HotC X) : CallR X (.builtin "sum") (rSum X.K) := by
  intro pins s σ H vs us Q I r h
  obtain ⟨a, ns, rfl, hs, q⟩ := h
  obtain ⟨its, rv, hl, _⟩ := I.list hs
  obtain ⟨x1, hot⟩ := hc.at I
  rw [Vals.ref1 r]
  exact sum_hot hot hl.isList rv.ints fun h' tk t' hk => ⟨.int _, H, I.kept hk, ⟨_, rfl⟩, q⟩
theorem laidN {pins : List (Addr × Obj)} {σ : L2.St} {H : Hp} {s : Shared} {h' : Heap} {a : Addr} {o : HO} {t' : Nat} (I : Inv X pins σ H s) (k : ∀ b u, s.heap.get? b = some u → h'.get? b = some u) (hp : s.heap.get? a = none) (new : ObjOk X.prog X.w (upd H a o) h' a o) :
    Inv X pins σ (upd H a o) { s with heap := h', toks := t' } := by
  have hn : H a = none := I.hok.gone hp
  have ne : ∀ b u, s.heap.get? b = some u → b ≠ a := fun b u e z => by rw [z, hp] at e; cases e
  refine I.un ⟨fun b u q _ _ _ => k b u q, fun b u q _ _ _ => ⟨u.slots, k b u q⟩, fun b u q n _ => by rw [upd_ne (ne b u q)]; exact n, fun b u q _ => ⟨u, k b u q⟩, fun b xs q => by rw [upd_ne (ne_of_none q hn)]; exact q, fun b u xs q => by rw [upd_ne (ne_of_none q hn)]; exact q, fun b ps q => ⟨#[], by rw [upd_ne (ne_of_none q hn), q]; simp⟩⟩ fun b u e => ?_
  by_cases hb : b = a
  · subst hb; rw [upd_same] at e; cases e; exact new
  · rw [upd_ne hb] at e
    exact (I.hok b u e).stay (fun c v _ q => k c v q) (fun c q => by rw [upd_ne (ne_of_none q hn)]; exact q) fun c xs q => by rw [upd_ne (ne_of_none q hn)]; exact q
theorem paired_flags : ∀ {bs : List Bool} {its ys : List Value}, Vals (bs.map V.bl) its → Paired (fun v z => ∃ (b : Bool) (t : Tok), v = .bool b ∧ z = .int (if b then 1 else 0) t) its ys → Vals (bs.map fun b => V.int (if b then 1 else 0)) ys
  | [], _, _, r, p => by cases r; cases p; exact .nil
  | b :: bs, _, _, r, p => by
    cases r with
    | cons r1 rr =>
      cases p with
      | cons p1 pp =>
        obtain ⟨b', t, e1, e2⟩ := p1
        rw [show _ = Value.bool b from r1] at e1
        cases e1
        exact .cons ⟨t, e2⟩ (paired_flags rr pp)
/-- [int(flag) for flag in flags], the flags bools -/
def tFlags (K : PySem.W.Frag) (i : Nat) : TE := fun σ H Q => ∃ (a : Addr) (bs : List Bool), σ[i]? = some (some (.ref a)) ∧ SqL K H a (bs.map V.bl) ∧ ∀ D, H D = none → Q (.ref D) (upd H D (.lst (bs.map fun b => V.int (if b then 1 else 0))))
theorem pe_flags {i : Nat} {x y : Str} {scope : Scope} {p1 p2 p3 p4 p5 pos : Pos} (hc : L2H.HotC X) (hN : X.N[i]? = some y) (hv : Vis X.env.scope y) (hint : X.mg "int" = none)
    (hfree : ∀ z ∈ scope.names, z.2 ≠ .free) (hcell : ∀ z ∈ scope.names, z.2 ≠ .cell) (hkind : scope.kind = .function) (hnames : ∀ z ∈ scope.names, z.2 = .local → scope.names.lookup z.1 = some .local) (hx : scope.names.lookup x = some .local)
    (hgi : scope.names.lookup ("int" : Str) = some .globalImplicit) (hd : (y == ("__debug__" : Str)) = false) (hcd : (y == ("__classdict__" : Str)) = false) (hdx : (x == ("__debug__" : Str)) = false) :
    PE X (.ListComp (.Call (.Name "int" p1) [.Name x p2] [] p3) [⟨.Name x p4, .Name y p5, [], 0⟩] scope pos) (tFlags X.K i) := by
  refine ⟨fun pins s σ H Q I h => ?_⟩
  obtain ⟨a, bs, h1, h2, q⟩ := h
  refine wpAny_ListComp_walk (fun _ => true) (fun v z => ∃ (b : Bool) (t : Tok), v = .bool b ∧ z = .int (if b then 1 else 0) t) hfree hcell hkind hnames hx
    (thn ((pe_var (pos := p5) hN hv hd hcd).run pins s σ H (fun v H1 => v = .ref a ∧ H1 = H) I ⟨.ref a, h1, rfl, rfl⟩) fun u s1 ⟨v, H1, I1, r1, q1⟩ => ?_)
  obtain ⟨ev0, eH⟩ := q1
  subst ev0
  rw [eH] at I1
  obtain rfl : u = Value.ref a := r1
  obtain ⟨its, rv, hl, hz⟩ := I1.list h2
  obtain ⟨x1, hot⟩ := hc.at I1
  have hlt : a < s1.heap.objs.size := by obtain ⟨_, e, _⟩ := hl.isList; exact Heap.lt_size e
  have hot1 : HotAt X.A x1 (s1.heap.push { cls := .type "list_iterator", data := .fields #[.ref a, .int 0 0] }) := HotAt.stay hot fun o e => Heap.get?_push_of_some _ e
  have I2 : L2.Inv X pins σ H { s1 with heap := s1.heap.push { cls := .type "list_iterator", data := .fields #[.ref a, .int 0 0] } } := I1.kept (t' := s1.toks) fun b o e => Heap.get?_push_of_some _ e
  have hlen := rv.length
  refine wpAny_pyIter_list hl.isList ⟨s1.heap.objs.size, _, _, its.toArray.size, _, _, rfl, walks_hot (x1 := x1) (Nat.ne_of_lt hlt) its.toArray, by rw [List.size_toArray, ← hlen]; exact hz, ⟨⟨⟨_, Heap.get?_push_size _ rfl, rfl, rfl⟩, hl.isList.push _⟩, hot1⟩, fun b hb => ?_, ⟨fun C i v s₃ m₃ E' _ _ _ _ _ => ?_, fun C i v s₃ m₃ E' hP _ hn hm hk htk => ?_⟩, fun D h' tk ys vs hD hli hpl hvl hP hF hk => ?_⟩
  · show b < (s1.heap.push _).objs.size
    rw [Heap.size_push]
    rcases List.mem_cons.mp hb with rfl | hb
    · exact Nat.lt_succ_self _
    · rcases List.mem_cons.mp hb with rfl | hb
      · exact Nat.lt_succ_of_lt hlt
      · have : b = x1 := by simpa using hb
        obtain ⟨_, o, vs, e, _⟩ := hot
        rw [this]; exact Nat.lt_succ_of_lt (Heap.lt_size e)
  · exact wpAny_tests_nil ⟨rfl, _, _, rfl, fun _ _ e => e⟩
  · have hi : ∃ b : Bool, v = .bool b := by
      have e : its[i]? = some v := by simpa using hP
      have hl3 : i < bs.length := by
        have := (List.getElem?_eq_some_iff.mp e).1
        rw [← hlen] at this; simpa using this
      obtain ⟨u', e', r'⟩ := rv.get (i := i) (x := V.bl bs[i]) (by rw [List.getElem?_map, List.getElem?_eq_getElem hl3]; rfl)
      rw [e] at e'; cases e'
      exact ⟨bs[i], r'⟩
    obtain ⟨b, rfl⟩ := hi
    obtain ⟨mb, g1, g2⟩ := I2.mod.blt
    have kk : ∀ b o, X.base.get? b = some o → s₃.heap.get? b = some o := fun b o e => hk b o (fun z => by
      have hb := Heap.lt_size (I1.bk b o e)
      have z : b = s1.heap.objs.size := by simpa using z
      rw [z] at hb
      exact Nat.lt_irrefl _ hb) (I2.bk b o e)
    refine Call_ (Calls.Name_function_global (env := compEnv scope C X.env) hkind hgi (Calls.loadGlobal_builtin (env := compEnv scope C X.env) (by show s₃.heap.Ns X.env.globals _; rw [I2.ok.glob]; exact I2.mod.glob.keeps kk) hint (by show s₃.heap.Ns X.env.builtins _; rw [I2.ok.blt]; exact g1.keeps kk) ((g2 "int" (by decide)).trans rfl) ?_))
    refine PyProof.Rows.callWith_type1 (Calls.spliced_cons (wpAny_Name (wpAny_loadName_local (env := compEnv scope C X.env) hkind hx hn hm ?_) hdx))
    refine Calls.spliced_nil (call_int_bool ⟨⟨b, _, rfl, rfl⟩, _, _, rfl, fun _ _ e => e⟩)
  · have nD : s1.heap.get? D = none := by
      cases e : s1.heap.get? D with
      | none => rfl
      | some o => rw [show (s1.heap.push { cls := .type "list_iterator", data := .fields #[.ref a, .int 0 0] }).get? D = some o from Heap.get?_push_of_some _ e] at hD; cases hD
    have hD2 : H D = none := I1.hok.gone nD
    have ev : vs = its := by
      refine List.ext_getElem? fun j => ?_
      cases e : vs[j]? with
      | some v => have := hP j v e; exact (by simpa using this.symm)
      | none =>
        have h1 := List.getElem?_eq_none_iff.mp e
        rw [hvl, List.size_toArray] at h1
        exact (List.getElem?_eq_none h1).symm
    subst ev
    rw [List.filter_eq_self.mpr (fun _ _ => rfl)] at hF
    have key := paired_flags rv hF
    refine ⟨.ref D, _, laidN (s := s1) (t' := tk) (a := D) (o := .lst (bs.map fun b => V.int (if b then 1 else 0))) I1 (fun b o e => hk b o (fun z => ?_) (Heap.get?_push_of_some _ e)) nD ?_, rfl, q D hD2⟩
    · have hb := Heap.lt_size e
      have z : b = s1.heap.objs.size := by simpa using z
      rw [z] at hb
      exact Nat.lt_irrefl _ hb
    · obtain ⟨n, e⟩ := hpl
      exact ⟨by rw [List.length_map]; have := hz; rw [List.length_map] at this; exact this, ys.toList, n, key, by rw [e]⟩
end
end DL
/-! Term: what a def of the law makes of the exception that is handled. -/
namespace DL
open PySem PySem.Spec PyProof.Rows L2 HotX
open Evl (Ex)
/-! ### isinstance of the handled exception -/
theorem call_isH {X : Cx} {a D : Addr} {oe : Obj} (hp : (a, oe) ∈ X.pn) (C : ExcC X.K D) (hz : Zc (.ref D) none oe) (hf : ∃ vs, oe.data = .fields vs) : CallR X (.builtin "isinstance") (rIsE X.K D a) := by
  intro pins s σ H xs us Q I r h
  obtain ⟨c, cv, b, rfl, hcv, e, q⟩ := h
  cases r with
  | cons rx rr =>
    cases rr with
    | cons rt rr =>
      cases rr
      cases rx
      have ec := hcv _ rt
      subst ec
      have hget := (I.pin (a, oe) (List.mem_append_left _ hp)).1
      obtain ⟨vs, hv⟩ := hf
      have J : PySem.W.InstAt s.heap a oe D none := by
        obtain ⟨oc, od, oda, osl⟩ := oe
        obtain ⟨h1, h2⟩ := hz
        dsimp only at h1 h2 hv
        subst h1 h2 hv
        exact ⟨hget, rfl, rfl, trivial⟩
      exact PySem.W.kia_one (PySem.W.handS_kitx_exc C.hg C.hk C.hs C.hd C.ha C.hn C.ht C.hm) I.kIn J e (fun z => nomatch z) fun tk => ⟨.bl b, H, I.kept (t' := tk) fun _ _ z => z, rfl, q⟩
theorem isiHK {X : Cx} {K : PySem.W.Frag} {a D : Addr} {oe : Obj} (h : X.K = K) (hp : (a, oe) ∈ X.pn) (C : ExcC K D) (hz : Zc (.ref D) none oe) (hf : ∃ vs, oe.data = .fields vs) : CallR X (.builtin "isinstance") (rIsE K D a) := by
  subst h
  exact call_isH hp C hz hf
section
variable {T : TL} {ρ ρ1 ρ2 : List Sl} {K : PySem.W.Frag} {D a : Addr}
theorem ee_isE {c : V} {cv : Value} {b : Bool} {i : Nat} (h : ρ[i]? = some (.is (kV (.ref a)))) (hcv : ∀ u, RelV c u → u = cv) (hk : PySem.W.kitOne K (.ref D) cv = some b) :
    EE T (tCB (rIsE K D a) (tCons (tVar i) (tCons (tC c) tNil))) ρ (.bool b) ρ := fun F W B H σ Q E k => by
  obtain ⟨o, h1, h2⟩ := E.sl i _ h
  have h2 : o = some (.ref a) := h2
  subst h2
  exact ⟨_, h1, _, cv, b, rfl, hcv, hk, k _ B H (Ex.refl _) E (.bl b)⟩
theorem el_flags {i : Nat} {bs : List Bool} (h : ρ[i]? = some (.dat (.list (bs.map PyData.bool)))) : EL T (tFlags K i) ρ ((bs.map fun b => if b then (1 : Int) else 0).map PyData.int) ρ := fun F W B H σ Q E k => by
  obtain ⟨v, h1, h2⟩ := E.dat h
  obtain ⟨p, xs, rfl, hb, q⟩ := h2.inv_lst
  have ex : ∀ (bs : List Bool) (xs : List V), DtAll B xs (bs.map PyData.bool) → xs = bs.map V.bl := by
    intro bs
    induction bs with
    | nil => intro xs q; cases q; rfl
    | cons b bs ih =>
      intro xs q
      cases q with
      | cons q1 q2 => rw [q1.inv_bl, ih _ q2]; rfl
  have e := ex bs xs q
  refine ⟨p, bs, h1, SqL.of (by rw [← e]; exact E.bh _ _ hb), fun D hD => ?_⟩
  have hg : Grow B H B (upd H D (.lst (bs.map fun b => V.int (if b then 1 else 0)))) := ⟨Ex.refl _, E.bh.trans (Ex.new hD), Ex.new hD, fun p h1 _ => h1, fun h => h⟩
  refine k D _ B _ (Ex.refl _) (E.grow hg) (by cases z : B D with | none => rfl | some u => rw [E.bh _ _ z] at hD; cases hD) (by cases z : F D with | none => rfl | some u => rw [E.fh _ _ z] at hD; cases hD) upd_same ?_ (E.notOwn hD)
  clear k e q hb h1 h hg h2
  induction bs with
  | nil => exact .nil
  | cons b bs ih => exact .cons (.int _) ih
theorem rb_sum {ns : List Int} : RB (rSum K) [eL ns] (.int ns.sum) := fun B H vs Q e bt q k => by
  cases q with
  | cons q1 q2 =>
    cases q2
    obtain ⟨p, xs, rfl, hb, q⟩ := q1.inv_lst
    have ex := q.ints
    exact ⟨p, ns, rfl, SqL.of (by rw [← ex]; exact e _ _ hb), k _ B H (Grow.refl e) (.int _)⟩
theorem ee_index {to : TE} {t : TA} {bs : List Bool} {j : Nat} (h1 : EE T to ρ (.list (bs.map PyData.bool)) ρ1) (h2 : EA T t ρ1 [.bool true] ρ2) (hj : bs[j]? = some true) (hn : ∀ m, m < j → bs[m]? = some false) :
    EE T (tBM K "list" (rIndex K) to t) ρ (.int (j : Nat)) ρ2 := fun F W B H σ Q E k =>
  h1 F W B H σ _ E fun v B1 H1 e1 E1 q1 => by
    obtain ⟨p, xs, rfl, hb, q⟩ := q1.inv_lst
    refine ⟨Or.inl ⟨rfl, xs, SqL.of (E1.bh _ _ hb)⟩, h2 F W B1 H1 σ _ E1 fun vs B2 H2 e2 E2 q2 => ?_⟩
    cases q2 with
    | cons a1 a2 =>
      cases a2
      rw [a1.inv_bl]
      have ex : ∀ (bs : List Bool) (xs : List V), DtAll B1 xs (bs.map PyData.bool) → xs = bs.map V.bl := by
        intro bs
        induction bs with
        | nil => intro xs q; cases q; rfl
        | cons b bs ih =>
          intro xs q
          cases q with
          | cons q1 q2 => rw [q1.inv_bl, ih _ q2]; rfl
      have e := ex bs xs q
      refine ⟨p, xs, .bl true, j, .bl true, rfl, rfl, SqL.of (E2.bh _ _ (e2 _ _ hb)), rfl, ?_, ?_, rfl, fun m z' hm hz => ?_, k _ B2 H2 (e1.trans e2) E2 (.int _)⟩
      · rw [e]; simp [flatV]
      · rw [e, List.getElem?_map, hj]; rfl
      · rw [e, List.getElem?_map, hn m hm] at hz; cases hz; rfl
end
section
variable {X : Cx}
theorem sumHK {K : PySem.W.Frag} (h : X.K = K) (hc : L2H.HotC X) : CallR X (.builtin "sum") (rSum K) := by subst h; exact cr_sumH hc
theorem ixHK {K : PySem.W.Frag} (h : X.K = K) : MtR X "list.index" (rIndex K) := by subst h; exact mt_index
theorem idxK {K : PySem.W.Frag} {o e : Expr} {es : List Expr} {to : TE} {t : TA} {apos cpos : Pos} (h : X.K = K) (ho : PE X o to) (ha : PA X (e :: es) t)
    (hbase : attributeBase o "index" X.env (eval o X.env) = eval o X.env := by rfl)
    (hfew : ((backTo cpos (starEach (e :: es) X.env)).all (fun x => !x.1) && (backToKw cpos (keywordEach [] X.env)).all (fun x => x.1.isSome)
      && decide ((e :: es).length + ([] : List Keyword).length + (if ([] : List Keyword).isEmpty then 0 else 1) < 30)) = true := by rfl)
    (hline : (apos.endLine == cpos.line) = true := by rfl) (hs : starEach (e :: es) X.env = (false, eval e X.env) :: starEach es X.env := by rfl) (hplain : (backTo cpos (starEach es X.env)).any (·.1) = false := by rfl) :
    PE X (.Call (.Attribute o "index" apos) (e :: es) [] cpos) (tBM K "list" (rIndex K) to t) := by
  subst h
  exact pe_bm PySem.F.plainAttrs_list PySem.F.slot_list_index PySem.F.type_list_index mt_index ho ha hbase hfew hline hs hplain
theorem flagsK {K : PySem.W.Frag} {i : Nat} {x y : Str} {scope : Scope} {p1 p2 p3 p4 p5 pos : Pos} (h : X.K = K) (hc : L2H.HotC X) (hN : X.N[i]? = some y) (hv : Vis X.env.scope y) (hint : X.mg "int" = none)
    (hfree : ∀ z ∈ scope.names, z.2 ≠ .free) (hcell : ∀ z ∈ scope.names, z.2 ≠ .cell) (hkind : scope.kind = .function) (hnames : ∀ z ∈ scope.names, z.2 = .local → scope.names.lookup z.1 = some .local) (hx : scope.names.lookup x = some .local)
    (hgi : scope.names.lookup ("int" : Str) = some .globalImplicit) (hd : (y == ("__debug__" : Str)) = false) (hcd : (y == ("__classdict__" : Str)) = false) (hdx : (x == ("__debug__" : Str)) = false) :
    PE X (.ListComp (.Call (.Name "int" p1) [.Name x p2] [] p3) [⟨.Name x p4, .Name y p5, [], 0⟩] scope pos) (tFlags K i) := by
  subst h
  exact pe_flags hc hN hv hint hfree hcell hkind hnames hx hgi hd hcd hdx
end

/-! ### the call, the exception known -/
/-- the value of slot i is the handled exception a; d comes of it -/
def tHot (a : Addr) (i : Nat) (d : PyData) : TE := fun σ H Q => σ[i]? = some (some (.ref a)) ∧ ∃ B, Ex B H ∧ (∀ p ps, B p ≠ some (.tbl ps)) ∧ ∀ v B' H', Grow B H B' H' → Dt B' v d → Q v H'
theorem start_is {N : List Str} {v : V} {B H : Hp} (hN : 1 ≤ N.length) (hB : Ex B H) (hb : ∀ p ps, B p ≠ some (.tbl ps)) : Env [] H (fun p => H p ≠ none ∧ B p = none) B H (L2.start N [v]) (.is (kV v) :: List.replicate (N.length - 1) .no) where
  fh := Ex.refl _
  bh := hB
  wf := fun p hp => hp.1
  wb := fun p hp => hp.2
  tb := fun p hp => by cases hp
  ft := fun h => absurd rfl h
  bt := hb
  ln := by unfold L2.start; simp
  sl := fun i s hs => by
    cases i with
    | zero => cases hs; exact ⟨some v, rfl, rfl⟩
    | succ i =>
      rw [List.getElem?_cons_succ, List.getElem?_replicate] at hs
      split at hs
      · rename_i hi
        cases hs
        exact ⟨none, by unfold L2.start; simp [hi], trivial⟩
      · cases hs
  ne := fun i j p q q' ds es hij hi => by
    cases i with
    | zero => cases hi
    | succ i =>
      rw [List.getElem?_cons_succ, List.getElem?_replicate] at hi
      split at hi <;> cases hi
theorem pe_hotcall {X : Cx} {x m : Str} {st : Stmt} {N : List Str} {k i : Nat} {d : PyData} {a : Addr} {oe : Obj} {e : Expr} {p pos : Pos} (F : Fn X.K X.mg x st) (S : FnScope N [m] (defScope st)) (hbind : BindsAs x st [m]) (hN : 1 ≤ N.length)
    (hp : (a, oe) ∈ X.pn) (hot : L2H.Hot1 X.A (a, oe)) (hr : L2H.RoomH (k + 1) X.A) (hg : Gl X x) (ha : PA X [e] (tCons (tVar i) tNil))
    (hb : ∀ (f : Addr) (cdv : Value) (A : Around) (outer : List PySem.Env) (s : Shared) (H : Hp), L2H.Hot1 A (a, oe) → L2H.RoomH k (A.deeper (envOfC x (defScope st) s.heap.objs.size f cdv)) →
      ∃ t, PSs (L2H.cxH CX0 X.prog X.w X.K X.mg X.base N x (defScope st) f cdv A outer s H E0 (a, oe)).nox (defBody st) t ∧ ∃ ρ', SS [] E0 t (.is (kV (.ref a)) :: List.replicate (N.length - 1) .no) (.rt d ρ'))
    (hdb : (x == ("__debug__" : Str)) = false := by decide) (he : starEach [e] X.env = (false, eval e X.env) :: starEach [] X.env := by rfl) (hpl : (backTo pos (starEach [] X.env)).any (·.1) = false := by rfl) :
    PE X (.Call (.Name x p) [e] [] pos) (tHot a i d) := by
  obtain ⟨f, fd, Fu, hm⟩ := F.ex
  have kp := Fu.kp
  have bi := Fu.binds hbind
  obtain ⟨oc, od, kV, doc, pm, an, cdv, ct, osl, rfl, lk, hcd⟩ := Fu.ex
  refine ⟨fun pins s σ H Q I h => ?_⟩
  obtain ⟨hσ, B, hB, hbt, hQ⟩ := h
  refine wpAny_Call_Name_kw (ld_glob I hg hm ?_ hdb)
  refine PySem.W.callWith_K (h₀ := X.base) I.ok.mod.kin kp (thn (ha.run pos pins s σ H (fun vs H1 => vs = [.ref a] ∧ H1 = H) I ⟨_, hσ, rfl, rfl⟩) fun us s1 ⟨vs, H1, I1, r, q⟩ => ⟨I1.kIn, ?_⟩) he hpl
  obtain ⟨e1, e2⟩ := q
  subst e1
  rw [e2] at I1
  have eu := Vals.ref1 r
  subst eu
  have P1 := I1.pin (a, oe) (List.mem_append_left _ hp)
  have hpin : L2H.PinOk X.stack H s1 (a, oe) := ⟨P1.1, P1.2.1, fun hm => (List.mem_cons.mp (I1.stkSub _ hm)).elim P1.2.2.1 P1.2.2.2.1, P1.2.2.2.2⟩
  have e0 := I1.env0
  have KX := I1.kIn
  have bn := bi s1 [.ref a] KX rfl
  rw [List.append_nil] at bn
  have rc : codeAny (model X.prog X.w) X.A (.call (.ref f) ⟨[.ref a], []⟩) (CR CX0 X.stack X.prog X.w H s1 Q E0) s1 := by
    refine codeAny_call_function hr.depth (KX _ _ lk) rfl S.co S.gen rfl (PySem.W.codeRec_of KX hcd) (bn _ _ _ _ ?_)
    refine wpAny_newFunctionEnv_cells S.kind (fun y hy => ?_) fun env he s2 x2 => ?_
    · have hy' : y.1 = m := by
        have : y ∈ [(m, Value.ref a)] := hy
        simp only [List.mem_singleton] at this
        rw [this]
      rw [hy']
      rcases S.par m (by simp) with q | q
      · exact .inl q
      · exact .inr ⟨q, PySem.W.cellsFrom_some _ _ _ (.inl q)⟩
    subst he
    refine ⟨I1.nolimit.keeps x2.toInCall.keep, codeAny_func ?_⟩
    obtain ⟨t, ht, ρ', hq⟩ := hb f cdv X.A X.stack s1 H hot (hr.deeper _)
    have J : L2.Inv (L2H.cxH CX0 X.prog X.w X.K X.mg X.base N x (defScope st) f cdv X.A X.stack s1 H E0 (a, oe)) [] (L2.start N [.ref a]) H s2 := L2H.inv_startH S hpin e0 rfl r x2
    have fin := hq H _ { nx := fun _ H' => Q .non H', rt := Q } B H (L2.start N [.ref a]) (start_is hN hB hbt) (fun v σ' B' H' e E' q' => hQ v B' H' (end_grow e E') q')
    refine wpAny_mono (ht.nox.run [] s2 (L2.start N [.ref a]) H _ J fin) (fun fl s' hs => ?_) fun e s' hs => hs
    cases fl with
    | ret u =>
      obtain ⟨v, σ', H', J, rv, q⟩ := hs
      exact ⟨v, H', J.os, J.bare, J.base, J.hok, rv, q⟩
    | next =>
      obtain ⟨σ', H', J, q⟩ := hs
      exact ⟨V.non, H', J.os, J.bare, J.base, J.hok, rfl, q⟩
    | brk =>
      obtain ⟨_, _, _, q⟩ := hs
      exact False.elim q
    | cont =>
      obtain ⟨_, _, _, q⟩ := hs
      exact False.elim q
  refine wpAny_call (codeAny_mono rc fun r s2 hq => ?_)
  cases r with
  | error e => exact (show False from hq).elim
  | ok fl =>
    cases fl with
    | ret u => exact I1.after hq
    | next => exact False.elim hq
    | brk => exact False.elim hq
    | cont => exact False.elim hq
end DL
/-! Tld: a lambda handed to a def that catches what the lambda raises and tells its kind. -/
namespace DL
open PySem PySem.Spec PyProof.Rows L2 HotX LamX
open Evl (Ex)
def kinds : List Str := ["InvalidWeb", "InvalidNumbering", "InvalidPlace", "InvalidBegun", "InvalidNumber", "InvalidPair", "InvalidText", "NotGood", "NoLines", "TooMany", "AlreadyThere", "Taken", "Equal", "NotThere", "NothingToUndo"]
/-- what is known of the exception class x -/
structure Tt (K : PySem.W.Frag) (xa : Str → Addr) (x : Str) : Prop where
  mem : x ∈ kinds
  ec : ExcC K (xa x)
  is : ∀ y ∈ kinds, PySem.W.kitOne K (.ref (xa x)) (.ref (xa y)) = some (y == x)
  ve : PySem.W.kitOne K (.ref (xa x)) (.type "ValueError") = some true
  le : PySem.W.exmOne K (.ref (xa x)) (.ref (xa "LineError")) = some true
/-- what is told of it -/
abbrev errD (x : Str) : PyData := .tuple [.str "error", .str x]
/-- a lambda's body, its exceptions of no context -/
def lamN (X : Cx) (A : Around) (outer : List PySem.Env) (s : Shared) (H : Hp) (E : XK) (scope : Scope) (f c : Addr) : Cx :=
  (lamCx X A outer s H E scope f c).wish fun e s' => wpAny (model X.prog X.w) (A.deeper (lamEnv X scope s.heap.objs.size f c)) (leaving (lamEnv X scope s.heap.objs.size f c) e) (fun _ s'' => L2N.CX X.prog X.w outer H s E e s'') (fun e' s'' => L2N.CX X.prog X.w outer H s E e' s'') s'
section
variable {X : Cx} {A : Around} {outer : List PySem.Env} {s : Shared} {H : Hp} {E : XK} {scope : Scope} {f c : Addr}
theorem lamN_takes : L2N.Takes (lamN X A outer s H E scope f c) (fun cls d _ H => E cls d H) := L2N.takes_of (X := lamN X A outer s H E scope f c) rfl rfl rfl rfl
end
section
variable {X : Cx} {pins : List (Addr × Obj)} {σ : L2.St} {H HZ : Hp} {s s1 : Shared}
theorem lam_run {A : Around} {outer : List PySem.Env} {E : XK} {Q : VK} {scope : Scope} {f c : Addr} {params : Arguments} {body : Expr} {pm ctv : Value} {tb : TE} (I : L2.Inv X pins σ H s) (L : LamS X.env.scope scope)
    (hf : s.heap.get? f = some (PySem.W.kla_obj "<lambda>" (X.env.qual ++ "<lambda>") params body scope (cloFrom X.env.cells scope.names []) pm c ctv)) (hfn : H f = none) (hfr : f ∉ frs X.stack)
    (hbind : bindArgs (PySem.W.kla_fn "<lambda>" (X.env.qual ++ "<lambda>") params body scope (cloFrom X.env.cells scope.names []) pm (.ref c) ctv) ⟨[], []⟩ = pure [])
    (e0 : Env0 X.prog X.w X.K X.mg X.base A outer s1 HZ) (hd : A.handled = none) (nl : s1.heap.NoLimit) (hdp : A.depth < recursionLimit) (un : Un (frs X.stack) [] H HZ s.heap s1.heap) (hc : HZ c = some (CodeO c (X.env.qual ++ "<lambda>")))
    (hbody : PE (lamN X A outer s1 HZ E scope f c) body tb) (h : tb σ HZ Q) : codeAny (model X.prog X.w) A (.call (.ref f) ⟨[], []⟩) (CR (L2N.CX X.prog X.w) outer X.prog X.w HZ s1 Q E) s1 := by
  have of1 := un.keep f _ hf hfn hfr (fun z => nomatch (show f ∈ ([] : List Addr) from z))
  obtain ⟨⟨oc, vs, t, hoc, hdc, hvc⟩, _, _⟩ := e0.hok c _ hc
  refine PySem.W.kla_callFunE hdp of1 rfl L.co L.gen rfl ⟨c, oc, vs, t, rfl, hoc, hdc, hvc⟩ ?_
  rw [hbind]
  refine wpAny_pure (wpAny_newFunctionEnv (fun y hy => (L.own y hy).2) (fun y hy => absurd hy (by simp)) (fun h₁ hns hsb => ⟨nl.fresh _ hsb, ?_⟩) L.kind)
  have kp : ∀ b o, s1.heap.get? b = some o → h₁.get? b = some o := fun b o e => hsb.extBut b o (Nat.ne_of_lt (Heap.lt_size e)) (Heap.get?_push_of_some _ e)
  have J0 := lam_start2 (E := E) (f := f) (c' := c) (tk := s1.toks + ([] : List (Str × Value)).length) I L e0 hd un hns kp
  show codeAny _ _ (.expr body (lamEnv X scope s1.heap.objs.size f c)) _ _
  refine PySem.W.kla_codeExpr (wpAny_mono (hbody.run [] _ σ HZ Q (J0.wish _) h) (fun v s' hq => ?_) fun e s' hq => hq)
  obtain ⟨w', H', J', rv, q⟩ := hq
  exact ⟨w', H', J'.os, J'.bare, J'.base, J'.hok, rv, q⟩
end
/-- the def that catches: its statement -/
structure ToldSt (st : Stmt) : Prop where
  body : ∃ p1 p2 p3 p4 p5 p6 p7 p8 p9 p10, defBody st = [.Try [.Return (some (.Call (.Name "deed" p1) [] [] p2)) p3] [.ExceptHandler (some (.Name "LineError" p4)) (some "e") [.Return (some (.Call (.Name "_law_term" p5) [.Name "e" p6] [] p7)) p8] p9] [] [] p10]
  sc : FnScope ["deed", "e"] ["deed"] (defScope st)
  bd : BindsAs "_law_told" st ["deed"]
  vd : (defScope st).names.lookup ("deed" : Str) = some .local
  ve : (defScope st).names.lookup ("e" : Str) = some .local
  gl : (defScope st).names.lookup ("LineError" : Str) = some .globalImplicit
  gt : (defScope st).names.lookup ("_law_term" : Str) = some .globalImplicit
/-- the other def, called in the suite -/
def TermOk (P : Program) (w : World) (K : PySem.W.Frag) (mg : Str → Option Value) (base : Heap) (xa : Str → Addr) (k : Nat) : Prop :=
  ∀ (X : Cx) (i : Nat) (a : Addr) (oe : Obj) (x : Str) (e : Expr) (p pos : Pos), X.prog = P → X.w = w → X.K = K → X.mg = mg → X.base = base → Tt K xa x → Zc (.ref (xa x)) none oe → (∃ vs, oe.data = .fields vs) → (a, oe) ∈ X.pn → L2H.Hot1 X.A (a, oe) → L2H.RoomH k X.A → Gl X "_law_term" →
    PA X [e] (tCons (tVar i) tNil) → starEach [e] X.env = (false, eval e X.env) :: starEach [] X.env → PE X (.Call (.Name "_law_term" p) [e] [] pos) (tHot a i (errD x))
/-- x(lambda: body): t the body's reading by what is wished of its exceptions -/
def tTold (K : PySem.W.Frag) (xa : Str → Addr) (T : TL) (t : XK → TE) : TE := fun σ H Q => Tabs T H ∧ ∀ H1, ExtN H H1 → Tabs T H1 →
  t (fun cls d H' => ∃ x, cls = .ref (xa x) ∧ d = none ∧ Tt K xa x ∧ ∃ B, Ex B H' ∧ (∀ p ps, B p ≠ some (.tbl ps)) ∧ ∀ v B' H'', Grow B H' B' H'' → Dt B' v (errD x) → Q v H'') σ H1 Q
theorem takesF {X : Cx} : L2N.Takes X (fun _ _ _ _ => False) := fun _ _ x => by
  obtain ⟨_, _, _, _, _, _, _, _, _, _, _, _, _, _, _, _, z⟩ := x
  exact z.elim
section
variable {X : Cx}
theorem pe_told {T : TL} {xa : Str → Addr} {st : Stmt} {c P : Addr} {k : Nat} {params : Arguments} {body : Expr} {scope : Scope} {t : XK → TE} {p lpos pos : Pos} (F : Fn X.K X.mg "_law_told" st) (S : ToldSt st) (tm : TermOk X.prog X.w X.K X.mg X.base xa k)
    (hl : X.mg "LineError" = some (.ref (xa "LineError"))) (hg : Gl X "_law_told")
    (TB : TabB X.base X.mg c P) (hcode : X.env.code = .ref c) (hmT : (P, X.env.qual ++ "<lambda>") ∈ T) (hu : ∀ p ∈ T, p.1 = P → p.2 = X.env.qual ++ "<lambda>") (hr : Room (k + 2) X.A) (L : LamS X.env.scope scope) (hdef : defaultsOf params X.env = ([], []))
    (hbind : ∀ (q : Str) (cl : List (Str × Addr)) (pm cv ctv : Value), bindArgs (PySem.W.kla_fn "<lambda>" q params body scope cl pm cv ctv) ⟨[], []⟩ = pure [])
    (hbody : ∀ (A : Around) (outer : List PySem.Env) (s : Shared) (H : Hp) (E : XK) (f c' : Addr), Room k (A.deeper (lamEnv X scope s.heap.objs.size f c')) → PE (lamN X A outer s H E scope f c') body (t E)) :
    PE X (.Call (.Name "_law_told" p) [.Lambda params body scope lpos] [] pos) (tTold X.K xa T t) := by
  obtain ⟨g, fd, Fu, hm⟩ := F.ex
  have kp := Fu.kp
  have bi := Fu.binds S.bd
  obtain ⟨oc, od, kV, doc, pm, an, cdv, ct, osl, rfl, lk, hcd⟩ := Fu.ex
  obtain ⟨p1, p2, p3, p4, p5, p6, p7, p8, p9, p10, hbd⟩ := S.body
  refine ⟨fun pins s σ H Q I h => ?_⟩
  obtain ⟨hT, h⟩ := h
  refine wpAny_Call_Name_kw (ld_glob I hg hm ?_ (by decide))
  refine PySem.W.callWith_K (h₀ := X.base) I.ok.mod.kin kp ?_ (by rfl) (by rfl)
  show wpAny _ _ (spliced ((false, eval (.Lambda params body scope lpos) X.env) :: backTo pos (starEach [] X.env))) _ _ s
  refine Calls.spliced_cons (lam_make2 I TB hcode hmT hu hT hdef (L.has I.ok) fun f c' pm' ctv H1 s' I1 eN T1 hf hfn hfr hco => ?_)
  refine Calls.spliced_nil ⟨I1.kIn, ?_⟩
  have hh := h H1 eN T1
  clear h
  generalize hW : (fun cls d H' => ∃ x, cls = Value.ref (xa x) ∧ d = none ∧ Tt X.K xa x ∧ ∃ B, Ex B H' ∧ (∀ p ps, B p ≠ some (.tbl ps)) ∧ ∀ v B' H'', Grow B H' B' H'' → Dt B' v (errD x) → Q v H'' : XK) = Ew at hh
  have rc : codeAny (model X.prog X.w) X.A (.call (.ref g) ⟨[.ref f], []⟩) (CR CX0 X.stack X.prog X.w H1 s' Q E0) s' := by
    refine run_ofS (N := ["deed", "e"]) (ps := ["deed"]) (us := [.ref f]) (vs := [.ref f]) (k := k + 1) lk hcd S.sc hr I1.env0 (bi s' [.ref f] I1.kIn rfl) (.cons rfl .nil) rfl fun hr' => ?_
    rw [hbd]
    generalize hZ : cxOf CX0 X.prog X.w X.K X.mg X.base ["deed", "e"] "_law_told" (defScope st) g cdv X.A X.stack s' H1 E0 = Z
    have zs : Z.stack = Z.env :: Z.outer := by rw [← hZ]; rfl
    have zf : Z.env.frame = some Z.env.locals := by rw [← hZ]; rfl
    have body1 : ∀ (W : WX) (pn : List (Addr × Obj)) (xe : Value → Shared → Prop), L2N.Takes (Z.nox.tr pn xe) W → PSs (Z.nox.tr pn xe) [.Return (some (.Call (.Name "deed" p1) [] [] p2)) p3]
        (fun D σZ HZ => (∀ cls d H', Ew cls d H' → W cls d σZ H') ∧ σZ[0]? = some (some (.ref f)) ∧ HZ c' = some (CodeO c' (X.env.qual ++ "<lambda>")) ∧ t Ew σ HZ D.rt) := by
      intro W pn xe tk
      refine ⟨fun pins' sZ σZ HZ D IZ hz => ?_⟩
      obtain ⟨hWW, h1, h2, h3⟩ := hz
      have pd : PE (Z.nox.tr pn xe) (.Call (.Name "deed" p1) [] [] p2) (fun σ' H' Q' => σ' = σZ ∧ H' = HZ ∧ Q' = D.rt) := by
        refine ⟨fun pins2 s2 σ2 H2 Q2 I2 ⟨e1, e2, e3⟩ => ?_⟩
        subst e1 e2 e3
        refine wpAny_Call_Name_kw (thn ((pe_var (X := Z.nox.tr pn xe) (pos := p1) (i := 0) (x := "deed") (by rw [← hZ]; rfl) (.inl (by rw [← hZ]; exact S.vd))).run pins2 s2 σ2 H2 (fun v H3 => v = .ref f ∧ H3 = H2) I2 ⟨.ref f, h1, rfl, rfl⟩) fun u s3 ⟨v, H3, I3, r3, q3⟩ => ?_)
        obtain ⟨ev, eH⟩ := q3
        subst ev
        rw [eH] at I3
        obtain rfl : u = Value.ref f := r3
        have un : Un (frs X.stack) [] H1 H2 s'.heap s3.heap := by
          have := I3.base
          rw [← hZ] at this
          exact this
        refine PySem.W.callWith_F0 ⟨_, _, _, _, un.keep f _ hf hfn hfr (fun z => nomatch (show f ∈ ([] : List Addr) from z))⟩ ?_
        have A0 : (Z.nox.tr pn xe).A = X.A.deeper (envOfC "_law_told" (defScope st) s'.heap.objs.size g cdv) := by rw [← hZ]; rfl
        have hr2 : Room k ((X.A.deeper (envOfC "_law_told" (defScope st) s'.heap.objs.size g cdv)).deeper (lamEnv X scope s3.heap.objs.size f c')) := hr'.deeper _
        have e0 := I3.env0
        have pw : Z.prog = X.prog ∧ Z.w = X.w ∧ Z.K = X.K ∧ Z.mg = X.mg ∧ Z.base = X.base := by rw [← hZ]; exact ⟨rfl, rfl, rfl, rfl, rfl⟩
        have rl : codeAny (model X.prog X.w) (Z.nox.tr pn xe).A (.call (.ref f) ⟨[], []⟩) (CR (L2N.CX X.prog X.w) (Z.nox.tr pn xe).stack X.prog X.w H2 s3 D.rt Ew) s3 := by
          rw [A0] at e0 ⊢
          refine lam_run I1 L hf hfn hfr (hbind _ _ _ _ _) (by obtain ⟨a1, a2, a3, a4, a5⟩ := pw; rw [← a1, ← a2, ← a3, ← a4, ← a5]; exact e0) hr'.hd I3.nolimit hr'.depth un h2 (hbody _ _ s3 H2 Ew f c' hr2) h3
        obtain ⟨a1, a2, _⟩ := id pw
        show wpAny (model Z.prog Z.w) _ _ _ _ _
        rw [a1, a2]
        refine wpAny_call (codeAny_mono rl fun r s4 hq => ?_)
        cases r with
        | error e => exact tk e s4 (L2N.XE.of_call I3 (fun cls d H' he => hWW cls d H' he) (by show L2N.CX Z.prog Z.w _ _ _ _ _ _; rw [a1, a2]; exact hq))
        | ok fl =>
          cases fl with
          | ret u => exact I3.after (X := Z.nox.tr pn xe) (by show CE _ Z.prog Z.w _ _ _ _ _; rw [a1, a2]; exact hq)
          | next => exact False.elim hq
          | brk => exact False.elim hq
          | cont => exact False.elim hq
      exact (pss_one (ps_ret (pos := p3) pd)).run pins' sZ σZ HZ D IZ ⟨rfl, rfl, rfl⟩
    have suite : ∀ (a : Addr) (oe : Obj) (cls : Value) (d : Option Addr) (pn : List (Addr × Obj)), L2N.Zn cls d oe → (∃ vs, oe.data = .fields vs) → PSs (Z.nox.suite a ((a, oe) :: pn)) [.Return (some (.Call (.Name "_law_term" p5) [.Name "e" p6] [] p7)) p8]
        (fun D σZ HZ => ∃ x, cls = .ref (xa x) ∧ d = none ∧ Tt X.K xa x ∧ tHot a 1 (errD x) σZ HZ D.rt) := by
      intro a oe cls d pn zn fl
      refine ⟨fun pins' sZ σZ HZ D IZ ⟨x, e1, e2, tt, hz⟩ => ?_⟩
      subst e1 e2
      obtain ⟨vs, hvs⟩ := id fl
      have hot : L2H.Hot1 (Z.nox.suite a ((a, oe) :: pn)).A (a, oe) := ⟨rfl, vs, hvs, zn.2.2 vs hvs⟩
      have rm : L2H.RoomH k (Z.nox.suite a ((a, oe) :: pn)).A := by
        have := L2H.roomH_of (hr'.mono (Nat.le_succ k))
        rw [← hZ]
        exact ⟨this.dp, this.un⟩
      have pt := tm (Z.nox.suite a ((a, oe) :: pn)) 1 a oe x (.Name "e" p6) p5 p7 (by rw [← hZ]; rfl) (by rw [← hZ]; rfl) (by rw [← hZ]; rfl) (by rw [← hZ]; rfl) (by rw [← hZ]; rfl) tt zn.zc fl (by simp) hot rm (by rw [← hZ]; exact S.gt)
        (pa_cons (pe_var (i := 1) (by rw [← hZ]; rfl) (.inl (by rw [← hZ]; exact S.ve))) pa_nil) rfl
      exact (pss_one (ps_ret (pos := p8) pt)).run pins' sZ σZ HZ D IZ hz
    refine ⟨_, PSs.nox (pss_one (L2N.ps_try_as (X := Z.nox) (i := 1) (x := "LineError") (n := "e") (c := .ref (xa "LineError")) zs zf (by rw [← hZ]; exact S.sc.nd) (by rw [← hZ]; rfl) (by rw [← hZ]; exact S.ve) ⟨by rw [← hZ]; exact S.gl, by decide, .inl (by rw [← hZ]; exact hl)⟩ takesF
      (fun W pn xe tk _ => body1 W pn xe tk) suite)), ?_⟩
    refine ⟨fun cls d H' he => ?_, rfl, hco, hh⟩
    rw [← hW] at he
    obtain ⟨x, e1, e2, tt, B, b1, b2, b3⟩ := he
    subst e1 e2
    refine ⟨true, by rw [← hZ]; exact tt.le, fun _ a ha => ⟨x, rfl, rfl, tt, rfl, B, b1, b2, b3⟩, fun z => by cases z⟩
  refine wpAny_call (codeAny_mono rc fun r s2 hq => ?_)
  cases r with
  | error e => exact (show False from hq).elim
  | ok fl =>
    cases fl with
    | ret u => exact I1.after hq
    | next => exact False.elim hq
    | brk => exact False.elim hq
    | cont => exact False.elim hq
theorem toldK {K : PySem.W.Frag} (hK : X.K = K) {T : TL} {xa : Str → Addr} {st : Stmt} {c P : Addr} {k : Nat} {params : Arguments} {body : Expr} {scope : Scope} {t : XK → TE} {p lpos pos : Pos} (F : Fn K X.mg "_law_told" st) (S : ToldSt st) (tm : TermOk X.prog X.w K X.mg X.base xa k)
    (hl : X.mg "LineError" = some (.ref (xa "LineError"))) (hg : Gl X "_law_told")
    (TB : TabB X.base X.mg c P) (hcode : X.env.code = .ref c) (hmT : (P, X.env.qual ++ "<lambda>") ∈ T) (hu : ∀ p ∈ T, p.1 = P → p.2 = X.env.qual ++ "<lambda>") (hr : Room (k + 2) X.A) (L : LamS X.env.scope scope) (hdef : defaultsOf params X.env = ([], []))
    (hbind : ∀ (q : Str) (cl : List (Str × Addr)) (pm cv ctv : Value), bindArgs (PySem.W.kla_fn "<lambda>" q params body scope cl pm cv ctv) ⟨[], []⟩ = pure [])
    (hbody : ∀ (A : Around) (outer : List PySem.Env) (s : Shared) (H : Hp) (E : XK) (f c' : Addr), Room k (A.deeper (lamEnv X scope s.heap.objs.size f c')) → PE (lamN X A outer s H E scope f c') body (t E)) :
    PE X (.Call (.Name "_law_told" p) [.Lambda params body scope lpos] [] pos) (tTold K xa T t) := by
  subst hK
  exact pe_told F S tm hl hg TB hcode hmT hu hr L hdef hbind hbody
end
end DL
namespace DL
open PySem L2 LamX
open Evl (Ex)
/-! ### its reading in data -/
theorem Env.ext {T : TL} {F : Hp} {W : Addr → Prop} {B H H1 : Hp} {σ : Sigma} {ρ : List Sl} (E : Env T F W B H σ ρ) (hT : T ≠ []) (e : ExtN H H1) (t : Tabs T H1) : Env T F W B H1 σ ρ where
  fh := fun a o h => e a o (E.fh a o h) fun ps z => E.ft hT a ps (by rw [h, z])
  bh := fun a o h => e a o (E.bh a o h) fun ps z => E.bt a ps (by rw [h, z])
  wf := E.wf
  wb := E.wb
  tb := t
  ft := E.ft
  bt := E.bt
  ln := E.ln
  sl := fun i s hs => by
    obtain ⟨o, h1, h2⟩ := E.sl i s hs
    refine ⟨o, h1, ?_⟩
    cases s with
    | no => trivial
    | dat d => exact h2
    | is v => exact h2
    | obj r C st =>
      obtain ⟨e', e1, e2, dx, fs, e3, q'⟩ := h2
      exact ⟨e', e1, e2, dx, fs, e _ _ e3 (fun ps z => by cases z), q'⟩
    | own qa ds =>
      obtain ⟨p, xs, a1, a2, a3, a4, a5, a6⟩ := h2
      exact ⟨p, xs, a1, a2, a3, e _ _ a4 (fun ps z => by cases z), a5, a6⟩
  ne := E.ne
/-- t, its exceptions handed to what is wished of them, ends in r -/
def ER (T : TL) (t : XK → TE) (ρ : List Sl) (r : Res) : Prop := ∀ F W B H σ (Q : VK) (E : XK), Env T F W B H σ ρ →
  (match r with
    | .ok d => ∀ v B' H', Ex B B' → Env T F W B' H' σ ρ → Dt B' v d → Q v H'
    | .ex C => ∀ B' H', Ex B B' → Env T F W B' H' σ ρ → E (.ref C) none H') → t E σ H Q
section
variable {T : TL} {ρ : List Sl} {ds : List PyData} {d : PyData} {ta : TA} {te : TE} {R : List PyData → Res → Prop} {r : Res} {t : XK → TE} {K : PySem.W.Frag} {xa : Str → Addr} {x : Str}
theorem er_call (h : EA T ta ρ ds ρ) (hR : R ds r) : ER T (fun E => tCall (spP R) [] E ta) ρ r := fun F W B H σ Q E Ev k =>
  h F W B H σ _ Ev fun vs B1 H1 e1 E1 q1 => by
    show spP R (vs ++ []) H1 Q E
    rw [List.append_nil]
    refine ⟨B1, ds, r, E1.bh, E1.bt, q1, hR, ?_⟩
    cases r with
    | ok d => exact fun v B' H' g q => k v B' H' (e1.trans g.bb) (E1.grow g) q
    | ex C => exact fun B' H' g => k B' H' (e1.trans g.bb) (E1.grow g)
theorem er_ee (h : EE T te ρ d ρ) : ER T (fun _ => te) ρ (.ok d) := fun F W B H σ Q E Ev k => h F W B H σ Q Ev k
/-- it gives a datum -/
theorem ee_told (hT : T ≠ []) (h : ER T t ρ (.ok d)) : EE T (tTold K xa T t) ρ d ρ := fun F W B H σ Q Ev k =>
  ⟨Ev.tb, fun H1 e t1 => h F W B H1 σ _ _ (Ev.ext hT e t1) fun v B' H' e' E' q => k v B' H' e' E' q⟩
/-- it raises -/
theorem ee_toldX (hT : T ≠ []) (tt : Tt K xa x) (h : ER T t ρ (.ex (xa x))) : EE T (tTold K xa T t) ρ (errD x) ρ := fun F W B H σ Q Ev k =>
  ⟨Ev.tb, fun H1 e t1 => h F W B H1 σ _ _ (Ev.ext hT e t1) fun B' H' e' E' => ⟨x, rfl, rfl, tt, B', E'.bh, E'.bt, fun v B2 H2 g q => k v B2 H2 (e'.trans g.bb) (E'.grow g) q⟩⟩
end
end DL
namespace DL
open PySem L2
section
variable {T : TL} {ρ : List Sl}
theorem ea_6 {t1 t2 t3 t4 t5 t6 : TE} {d1 d2 d3 d4 d5 d6 : PyData} (h1 : EE T t1 ρ d1 ρ) (h2 : EE T t2 ρ d2 ρ) (h3 : EE T t3 ρ d3 ρ) (h4 : EE T t4 ρ d4 ρ) (h5 : EE T t5 ρ d5 ρ) (h6 : EE T t6 ρ d6 ρ) :
    EA T (tCons t1 (tCons t2 (tCons t3 (tCons t4 (tCons t5 (tCons t6 tNil)))))) ρ [d1, d2, d3, d4, d5, d6] ρ := ea_cons h1 (ea_cons h2 (ea_cons h3 (ea_cons h4 (ea_cons h5 (ea_1 h6)))))
theorem ea_4 {t1 t2 t3 t4 : TE} {d1 d2 d3 d4 : PyData} (h1 : EE T t1 ρ d1 ρ) (h2 : EE T t2 ρ d2 ρ) (h3 : EE T t3 ρ d3 ρ) (h4 : EE T t4 ρ d4 ρ) : EA T (tCons t1 (tCons t2 (tCons t3 (tCons t4 tNil)))) ρ [d1, d2, d3, d4] ρ := ea_cons h1 (ea_3 h2 h3 h4)
theorem ea_5 {t1 t2 t3 t4 t5 : TE} {d1 d2 d3 d4 d5 : PyData} (h1 : EE T t1 ρ d1 ρ) (h2 : EE T t2 ρ d2 ρ) (h3 : EE T t3 ρ d3 ρ) (h4 : EE T t4 ρ d4 ρ) (h5 : EE T t5 ρ d5 ρ) : EA T (tCons t1 (tCons t2 (tCons t3 (tCons t4 (tCons t5 tNil))))) ρ [d1, d2, d3, d4, d5] ρ := ea_cons h1 (ea_4 h2 h3 h4 h5)
end
end DL
/-! TldEnd: the end of a law with lambdas. -/
namespace DL
open PySem PySem.Spec PyProof.Rows L2 LamX
open Evl (Ex)
theorem TermOk.mono {P : Program} {w : World} {K : PySem.W.Frag} {mg : Str → Option Value} {base : Heap} {xa : Str → Addr} {j k : Nat} (h : TermOk P w K mg base xa j) (hk : j ≤ k) : TermOk P w K mg base xa k :=
  fun X i a oe x e p pos h1 h2 h3 h4 h5 tt hz hf hp hot hr => h X i a oe x e p pos h1 h2 h3 h4 h5 tt hz hf hp hot (hr.mono hk)
/-- the one table of a law with lambdas -/
abbrev lamT (P : Addr) : TL := [(P, (("law" : Str) ++ ".<locals>.") ++ "<lambda>")]
theorem lamT_u {P : Addr} {q : Str} : ∀ p ∈ [(P, q)], p.1 = P → p.2 = q := fun p h _ => by
  cases h with
  | head => rfl
  | tail _ h => cases h
theorem lamT_ne {P : Addr} : lamT P ≠ [] := fun h => by cases h
/-- the law's def: its code object known -/
theorem fnC {P : Program} {w : World} {K : PySem.W.Frag} {mg : Str → Option Value} {base : Heap} {x : Str} {st : Stmt} {f c : Addr} {oc : Value} {od an : Option Addr} {kV doc pm ct : Value} {osl : Array (Option Value)} {N ps : List Str} {k : Nat} {sp : Sp}
    (lk : K.lookup f = some ⟨oc, od, .func (PySem.W.fnOf x x (defArgs st) (defBody st) (defScope st) .none kV doc pm an (.ref c) ct), osl⟩) (hcd : PySem.W.codeIn K (.ref c) x = true) (S : FnScope N ps (defScope st)) (len : ∀ vs H Q E, sp vs H Q E → vs.length = ps.length)
    (hbody : ∀ (A : Around) (outer : List PySem.Env) (s : Shared) (H : Hp) (vs : List V) (Q : VK) (E : XK), Room k (A.deeper (envOfC x (defScope st) s.heap.objs.size f (.ref c))) → sp vs H Q E →
      ∃ t, PSs (cxOf CX0 P w K mg base N x (defScope st) f (.ref c) A outer s H E).nox (defBody st) t ∧ t { nx := fun _ H' => Q .non H', rt := Q } (L2.start N vs) H) :
    FnOk P w K mg base CX0 (k + 1) f (PySem.W.fnOf x x (defArgs st) (defBody st) (defScope st) .none kV doc pm an (.ref c) ct) ps sp :=
  fn_of lk hcd S len fun A outer s H vs Q E hr hsp => by
    obtain ⟨t, h, q⟩ := hbody A outer s H vs Q E hr hsp
    exact ⟨t, h.nox, q⟩
theorem walkT {l : PySem.W.OpenLaw} {k : Nat} {q : Program} {loose : List Str} {XP : (Str → Option Value) → Heap → Prop} {d : DefRec} {K : Params → PySem.W.Frag} {as : List Addr} {ek : ∀ P, as = (K P).map (·.1)} {P : Addr} (hn : l.most = some 63) (hdf : d.params.defaults = []) (hr : Room k callerA)
    (F : ∀ (w : World) (mg : Str → Option Value) (fa : Addr) (h : Heap), (K w.params).In h → h.Ns mainGlobals mg → mg d.name = some (.ref fa) →
      ∃ (fd : FuncData) (c : Addr), PySem.W.codeHdIn (K w.params) c P = true ∧ (K w.params).lookup P = none ∧ (∀ (s : Shared) (u : Value), BindsTo s fd ⟨[u], []⟩ [("script", u)]) ∧
        ∀ base : Heap, (K w.params).In base → base.Ns mainGlobals mg → TabB base mg c P → FnOk l.prog w (K w.params) mg base CX0 k fa fd ["script"] (spLaw (K w.params) (lamT P))) :
    PySem.W.WalkO q loose XP (PySem.W.kmHook K as ek [P]).says l.row.toRowW d [] (fun f vs => PySem.call f vs) := by
  refine Att.attach_callB hn hdf fun w s₀ s₁ mg mb fa o pm cd doc a vs ns G Y ho hd hcd hmg hobj hints hlen hbits hg => ?_
  have KX := PySem.W.km_in_of Y
  have T0 := PySem.W.km_tabs_of Y P (.head _)
  obtain ⟨fd, c, ht, hP, hb, hF⟩ := F w mg fa _ KX G.T.g hmg
  have C := PySem.W.codeHd_of_K KX ht
  have one : ∀ {Z : Addr × Addr → Prop}, Z (c, P) → ∀ p ∈ [(c, P)], Z p := fun z p hp => by
    cases hp with
    | head => exact z
    | tail _ h => cases h
  refine law_callTs (cs := [(c, P)]) KX G.T.g G.T.b G.T.builtins G.T.nolimit hg (one T0) (one hP) (one C) G.T.bmain hobj hints (Nat.le_trans hlen (by decide)) hr (fun base KB hB tb => hF base KB hB (tb (c, P) (.head _))) hb (fun H hH hS => ⟨a, ns, rfl, hS, hlen, fun p hp => ?_, fun _ => rfl⟩) fun H e s' z => z
  have z := hH (c, P) (.head _)
  cases hp with
  | head => exact TabS.nil z
  | tail _ h => cases h
/-- the exception classes' addresses -/
def xaOf (l : List (Str × Addr)) (y : Str) : Addr := (l.lookup y).getD 0
theorem lookup_of {α : Type} : ∀ {l : List (Str × α)} {p : Str × α}, (l.map (·.1)).Nodup → p ∈ l → l.lookup p.1 = some p.2
  | [], _, _, h => by cases h
  | q :: l, p, nd, h => by
    rw [List.map_cons, List.nodup_cons] at nd
    rcases List.mem_cons.mp h with e | h9
    · subst e; obtain ⟨a, b⟩ := p; show List.lookup a ((a, b) :: l) = some b; unfold List.lookup; simp
    · have ne : (p.1 == q.1) = false := by
        rw [beq_eq_false_iff_ne]
        intro z
        exact nd.1 (z ▸ List.mem_map.mpr ⟨p, h9, rfl⟩)
      obtain ⟨a, b⟩ := q
      show List.lookup p.1 ((a, b) :: l) = some p.2
      unfold List.lookup
      rw [show (p.1 == a) = false from ne]
      exact lookup_of nd.2 h9
theorem xaOf_at {l : List (Str × Addr)} {p : Str × Addr} (nd : (l.map (·.1)).Nodup) (h : p ∈ l) : xaOf l p.1 = p.2 := by
  unfold xaOf
  rw [lookup_of nd h]; rfl
/-- what the end must give of a class that is told -/
structure TtF (K : PySem.W.Frag) (D L : Addr) (cs : List Addr) (bs : List Bool) : Prop where
  ec : ExcC K D
  ve : PySem.W.kitOne K (.ref D) (.type "ValueError") = some true
  le : PySem.W.exmOne K (.ref D) (.ref L) = some true
  is : ∀ p ∈ cs.zip bs, PySem.W.kitOne K (.ref D) (.ref p.1) = some p.2
theorem tt_of {K : PySem.W.Frag} {x : Str} {D L : Addr} {cs : List Addr} {bs : List Bool} {xa : Str → Addr} (h : TtF K D L cs bs) (hx : x ∈ kinds) (hb : bs = kinds.map fun y => y == x) (hD : xa x = D) (hL : xa "LineError" = L) (hc : ∀ p ∈ kinds.zip cs, xa p.1 = p.2) (hl : cs.length = kinds.length) : Tt K xa x := by
  refine ⟨hx, by rw [hD]; exact h.ec, fun y hy => ?_, by rw [hD]; exact h.ve, by rw [hD, hL]; exact h.le⟩
  obtain ⟨i, hi, e⟩ := List.getElem_of_mem hy
  have hic : i < cs.length := by omega
  have h1 : xa y = cs[i] := by
    have := hc (kinds[i], cs[i]) (by
      have := List.getElem_mem (l := kinds.zip cs) (n := i) (by rw [List.length_zip]; omega)
      rwa [List.getElem_zip] at this)
    rw [← e]; exact this
  have hbl : bs.length = kinds.length := by rw [hb, List.length_map]
  have h2 := h.is (cs[i], bs[i]) (by
    have := List.getElem_mem (l := cs.zip bs) (n := i) (by rw [List.length_zip]; omega)
    rwa [List.getElem_zip] at this)
  rw [hD, h1, h2]
  subst hb
  simp [e]
end DL
namespace DL
open PySem L2
theorem pss_void {X : Cx} {ss : List Stmt} : PSs X ss (fun _ _ _ => False) := ⟨fun _ _ _ _ _ _ h => h.elim⟩
end DL
namespace DL
open PySem L2
theorem ee_neg {T : TL} {te : TE} {ρ ρ1 : List Sl} {i : Int} (h : EE T te ρ (.int i) ρ1) : EE T (tUn (rU fun i => .int (-i)) te) ρ (.int (-i)) ρ1 := fun F W B H σ Q E k =>
  h F W B H σ _ E fun v B1 H1 e1 E1 q1 => ⟨i, q1.inv_int, k _ B1 H1 e1 E1 (.int _)⟩
end DL
namespace U
open PySem L2 PyProof.Rows DL
theorem bt_mk {K : PySem.W.Frag} {h : Heap} {mg : Str → Option Value} (X : K.In h) (G : h.Ns mainGlobals mg) (z0 : PySem.W.nsIn K mainGlobals "len" = some none) (z1 : PySem.W.nsIn K mainGlobals "range" = some none) (z2 : PySem.W.nsIn K mainGlobals "tuple" = some none) (z3 : PySem.W.nsIn K mainGlobals "list" = some none) (z4 : PySem.W.nsIn K mainGlobals "isinstance" = some none) (z5 : PySem.W.nsIn K mainGlobals "all" = some none) (z6 : PySem.W.nsIn K mainGlobals "abs" = some none) (z7 : PySem.W.nsIn K mainGlobals "sorted" = some none) (z8 : PySem.W.nsIn K mainGlobals "set" = some none) (z9 : PySem.W.nsIn K mainGlobals "max" = some none) (z10 : PySem.W.nsIn K mainGlobals "min" = some none) (z11 : PySem.W.nsIn K mainGlobals "int" = some none) (z12 : PySem.W.nsIn K mainGlobals "bool" = some none) (z13 : PySem.W.nsIn K mainGlobals "str" = some none) (z14 : PySem.W.nsIn K mainGlobals "sum" = some none) (z15 : PySem.W.nsIn K mainGlobals "enumerate" = some none) (z16 : PySem.W.nsIn K mainGlobals "ValueError" = some none) : Bt mg :=
  ⟨PySem.W.mg_none_of X G z0, PySem.W.mg_none_of X G z1, PySem.W.mg_none_of X G z2, PySem.W.mg_none_of X G z3, PySem.W.mg_none_of X G z4, PySem.W.mg_none_of X G z5, PySem.W.mg_none_of X G z6, PySem.W.mg_none_of X G z7, PySem.W.mg_none_of X G z8, PySem.W.mg_none_of X G z9, PySem.W.mg_none_of X G z10, PySem.W.mg_none_of X G z11, PySem.W.mg_none_of X G z12, PySem.W.mg_none_of X G z13, PySem.W.mg_none_of X G z14, PySem.W.mg_none_of X G z15, PySem.W.mg_none_of X G z16⟩
theorem fn_mk {K : PySem.W.Frag} {h : Heap} {mg : Str → Option Value} {x : Str} {st : Stmt} {f : Addr} {oc : Value} {od an : Option Addr} {osl : Array (Option Value)} {kV doc pm cdv ct : Value} (X : K.In h) (G : h.Ns mainGlobals mg) (a : PySem.W.nsIn K mainGlobals x = some (some (.ref f)))
    (l : K.lookup f = some ⟨oc, od, .func (PySem.W.fnOf x x (defArgs st) (defBody st) (defScope st) .none kV doc pm an cdv ct), osl⟩) (c : PySem.W.codeIn K cdv x = true) (k : PySem.W.keepIn K (.ref f) = true) : Fn K mg x st := ⟨f, _, fun_mk l c k, PySem.W.mg_of X G a⟩
theorem xc_mk {K : PySem.W.Frag} {h : Heap} {mg : Str → Option Value} {x : Str} {C : Addr} (X : K.In h) (G : h.Ns mainGlobals mg) (a : PySem.W.nsIn K mainGlobals x = some (some (.ref C)))
    (q : PySem.W.excIn K C [.type "ValueError", .type "Exception", .type "BaseException", .type "object"] "ValueError.__new__" = true) (k : PySem.W.keepIn K (.ref C) = true) (b : PySem.W.subIn K (.ref C) (.type "BaseException") = some true) (t : PySem.W.typeIn K (.ref C) = some (.type "type")) : ∃ C, Xc K mg x C := ⟨C, PySem.W.mg_of X G a, q, k, b, t⟩
theorem xa_mk {K : PySem.W.Frag} {mg : Str → Option Value} (names : List Str) (h : ∀ x ∈ names, ∃ C, Xc K mg x C) : ∃ xa : Str → Addr, ∀ x ∈ names, Xc K mg x (xa x) := by
  classical
  refine ⟨fun x => if h' : x ∈ names then (h x h').choose else 0, fun x hx => ?_⟩
  show Xc K mg x (if h' : x ∈ names then (h x h').choose else 0)
  rw [dif_pos hx]
  exact (h x hx).choose_spec
end U
namespace U
open PySem L2 PyProof.Rows DL
structure XcF (K : PySem.W.Frag) (C : Addr) : Prop where
  q : PySem.W.excIn K C [.type "ValueError", .type "Exception", .type "BaseException", .type "object"] "ValueError.__new__" = true
  k : PySem.W.keepIn K (.ref C) = true
  b : PySem.W.subIn K (.ref C) (.type "BaseException") = some true
  t : PySem.W.typeIn K (.ref C) = some (.type "type")
theorem ttf_mk {K : PySem.W.Frag} {D L : Addr} {c0 c1 c2 c3 c4 c5 c6 c7 c8 c9 c10 c11 c12 c13 c14 : Addr} {v0 v1 v2 v3 v4 v5 v6 v7 v8 v9 v10 v11 v12 v13 v14 : Bool} (a1 : PySem.W.findIn K (.ref D) "__getattribute__" = some (some (.builtin "BaseException.__getattribute__"))) (a2 : PySem.W.findIn K (.ref D) "__getattr__" = some none) (a3 : PySem.W.subIn K (.ref D) (.type "BaseException") = some true) (a4 : PySem.W.hasDictIn K D = true)
    (a5 : PySem.W.findIn K (.ref D) "__class__" = some (some (.builtin "object.__class__"))) (a6 : PySem.W.specialIn K (.builtin "object.__class__") "__get__" = some (some (.builtin "getset_descriptor.__get__"))) (a7 : PySem.W.takesIn K (.builtin "object.__class__") = some true) (a8 : PySem.W.mroIn K D (.type "object") = some true)
    (a9 : PySem.W.kitOne K (.ref D) (.type "ValueError") = some true) (a10 : PySem.W.exmOne K (.ref D) (.ref L) = some true)
    (b0 : PySem.W.kitOne K (.ref D) (.ref c0) = some v0) (b1 : PySem.W.kitOne K (.ref D) (.ref c1) = some v1) (b2 : PySem.W.kitOne K (.ref D) (.ref c2) = some v2) (b3 : PySem.W.kitOne K (.ref D) (.ref c3) = some v3) (b4 : PySem.W.kitOne K (.ref D) (.ref c4) = some v4) (b5 : PySem.W.kitOne K (.ref D) (.ref c5) = some v5) (b6 : PySem.W.kitOne K (.ref D) (.ref c6) = some v6) (b7 : PySem.W.kitOne K (.ref D) (.ref c7) = some v7) (b8 : PySem.W.kitOne K (.ref D) (.ref c8) = some v8) (b9 : PySem.W.kitOne K (.ref D) (.ref c9) = some v9) (b10 : PySem.W.kitOne K (.ref D) (.ref c10) = some v10) (b11 : PySem.W.kitOne K (.ref D) (.ref c11) = some v11) (b12 : PySem.W.kitOne K (.ref D) (.ref c12) = some v12) (b13 : PySem.W.kitOne K (.ref D) (.ref c13) = some v13) (b14 : PySem.W.kitOne K (.ref D) (.ref c14) = some v14) : TtF K D L [c0, c1, c2, c3, c4, c5, c6, c7, c8, c9, c10, c11, c12, c13, c14] [v0, v1, v2, v3, v4, v5, v6, v7, v8, v9, v10, v11, v12, v13, v14] := by
  refine ⟨⟨a1, a2, a3, a4, a5, a6, a7, a8⟩, a9, a10, ?_⟩
  simp only [List.zip_cons_cons, List.zip_nil_right, List.forall_mem_cons]
  exact ⟨b0, b1, b2, b3, b4, b5, b6, b7, b8, b9, b10, b11, b12, b13, b14, fun _ h => by cases h⟩
end U
namespace U
open PySem
def topS (i : Nat) : Stmt := PySem.Challenge.pw_unlikelines_k21_errors_apart.main.body.getD i (.Pass ⟨0, 0, 0, 0⟩)
def methS (s : Stmt) (j : Nat) : Stmt := match s with
  | .ClassDef _ _ _ b _ _ _ _ _ _ _ => b.getD j (.Pass ⟨0, 0, 0, 0⟩)
  | _ => .Pass ⟨0, 0, 0, 0⟩
end U
namespace U
open PySem L2 PyProof.Rows DL
open Evl (Ex)
open LamX (lamS_by)
section
variable {P : Program} {w : World} {K : PySem.W.Frag} {mg : Str → Option Value} {base : Heap} {xa : Str → Addr} {Cd cd Pd Pt : Addr}
abbrev s_law_cell : Stmt := topS 69
theorem sc_law_cell : FnScope ["script", "k"] ["script", "k"] (defScope s_law_cell) := ⟨rfl, rfl, rfl, by decide +kernel, rfl, by decide +kernel, by decide +kernel⟩
theorem bd_law_cell : BindsAs "_law_cell" s_law_cell ["script", "k"] := fun _ _ _ _ _ _ us hl => match us, hl with | [_, _], _ => rfl

theorem eqv_nil (ns : List Int) : PyData.eqv (.list (ns.map PyData.int)) (.list []) = decide (ns = []) := eqv_eL ns []
theorem ok_law_cell (F : Fn K mg "_law_cell" s_law_cell) (B : Bt mg) : Cal P w K mg base 1 "_law_cell" ["script", "k"] (spCellU K) := by
  obtain ⟨f, fd, Fu, hm⟩ := F.ex
  refine ⟨f, fd, Fu.okN sc_law_cell (fun vs H Q E h => ?_) (fun cdv A outer s H vs Q E hr h => ?_), hm, Fu.kp, Fu.binds bd_law_cell⟩
  · obtain ⟨a, ns, k, rfl, _⟩ := h
    rfl
  · refine ⟨_, PSs.nox (pss_cons (ps_if (pt_cmpR (eqDK (K := K) rfl (hu64 hr)) (pv 0) (pe_lst pa_nil) (nomark _)) (pss_one (ps_ret (pe_op op_mul (pv 1) pe_int))) pss_nil)
      (pss_one (ps_ret (pe_op op_add (pe_ix (ixL (K := K) rfl) (pv 0) (pe_op op_mod (pv 1) (pe_callB (lenK (K := K) rfl) (by rfl) B.len bb_len (pa_cons (pv 0) pa_nil))) (fun _ _ => rfl)) (pe_op op_mul (pe_op op_fdiv (pv 1) (pe_callB (lenK (K := K) rfl) (by rfl) B.len bb_len (pa_cons (pv 0) pa_nil))) pe_int))))), ?_⟩
    obtain ⟨a, ns, k, rfl, hs, hl, h0, h1, q⟩ := h
    refine ⟨_, rfl, by decide, fun p hp => ?_⟩
    have e : Ex H (upd H p (.lst [])) := Ex.new hp
    have hs' := Evl.ex_l e hs
    refine ⟨.list (ns.map PyData.int), .list [], .lst hs' (dp_ints ns), .lst (SqL.of upd_same) .nil, sh_eL ns, sh_eL [], decide (ns = []), by rw [eqv_nil], ?_⟩
    by_cases hns : ns = []
    · rw [decide_eq_true hns]
      refine iteT ?_
      exact ⟨_, rfl, k, 7919, rfl, rfl, .inr (by decide), q _ _ e⟩
    · rw [decide_eq_false hns]
      refine iteF ?_
      have hpos : 0 < ns.length := List.length_pos_iff.mpr hns
      have hlen : (ns.map V.int).length = ns.length := List.length_map _
      have hm0 : 0 ≤ k % (ns.length : Int) := Int.emod_nonneg _ (by omega)
      have hm1 : k % (ns.length : Int) < ns.length := Int.emod_lt_of_pos _ (by omega)
      have hi : atI (ns.map V.int) (k % (ns.length : Int)) = some (V.int (ns.getD (k % (ns.length : Int)).toNat 0)) := by
        obtain ⟨j, hj⟩ := Int.eq_ofNat_of_zero_le hm0
        rw [hj]
        have hj' : j < ns.length := by omega
        unfold atI ixN
        rw [hlen, if_pos (by omega), if_pos (by omega)]
        show (ns.map V.int)[((j : Nat) : Int).toNat]? = _
        simp [hj']
      refine ⟨_, rfl, _, rfl, _, rfl, a, _, rfl, .inl hs', ?_⟩
      rw [hlen]
      refine ⟨k, ns.length, rfl, rfl, by omega, a, _, _, _, rfl, rfl, hs', hi, _, rfl, _, rfl, a, _, rfl, .inl hs', ?_⟩
      rw [hlen]
      exact ⟨k, ns.length, rfl, rfl, ⟨by omega, by omega⟩, _, 104729, rfl, rfl, .inr (by decide), _, _, rfl, rfl, q _ _ e⟩

end
end U
namespace U
open PySem L2 PyProof.Rows DL
open Evl (Ex)
open LamX (lamS_by)
section
variable {P : Program} {w : World} {K : PySem.W.Frag} {mg : Str → Option Value} {base : Heap} {xa : Str → Addr} {Cd cd Pd Pt : Addr}
abbrev s_law_rounds : Stmt := topS 72
theorem sc_law_rounds : FnScope ["script", "most", "k"] ["script", "most"] (defScope s_law_rounds) := ⟨rfl, rfl, rfl, by decide +kernel, rfl, by decide +kernel, by decide +kernel⟩
theorem bd_law_rounds : BindsAs "_law_rounds" s_law_rounds ["script", "most"] := fun _ _ _ _ _ _ us hl => match us, hl with | [_, _], _ => rfl

theorem ok_law_rounds (F : Fn K mg "_law_rounds" s_law_rounds) (B : Bt mg) (c__law_cell : Cal P w K mg base 1 "_law_cell" ["script", "k"] (spCellU K)) : Cal P w K mg base 2 "_law_rounds" ["script", "most"] (spRounds K) := by
  obtain ⟨f, fd, Fu, hm⟩ := F.ex
  refine ⟨f, fd, Fu.okN sc_law_rounds (fun vs H Q E h => ?_) (fun cdv A outer s H vs Q E hr h => ?_), hm, Fu.kp, Fu.binds bd_law_rounds⟩
  · obtain ⟨a, ns, k, rfl, _⟩ := h
    rfl
  · refine ⟨_, PSs.nox (pss_one (ps_ret (pe_lc (own := [("k", 2)]) (g := (gName 2)) (tt := tYes) rfl sc_law_rounds.nd (pi_range1 (by rfl) B.range (pa_cons (pe_callB (call_max2 rfl) (by rfl) B.max bb_max (pa_cons pe_int (pa_cons (pe_callB (call_min2 rfl) (by rfl) B.min bb_min (pa_cons (pv 1) (pa_cons (pe_callB (lenK (K := K) rfl) (by rfl) B.len bb_len (pa_cons (pv 0) pa_nil)) pa_nil))) pa_nil))) pa_nil)) (blkOk_by (own := [("k", 2)]) (N := ["script", "most", "k"]) (sc := defScope s_law_rounds) (by decide +kernel)) (fun _ _ _ _ _ => (pg_name (i := 2) sc_law_rounds.nd rfl (Or.inl rfl))) (fun _ _ _ _ _ => pts_nil) (fun _ _ _ _ _ => (pe_lst (pa_cons (pe_cal c__law_cell (hr.mono (by decide)) (by rfl) (pa_cons (pv 0) (pa_cons (pv 2) pa_nil))) (pa_cons pe_int pa_nil))))))), ?_⟩
    obtain ⟨a, ns, m, rfl, hs, hl, h0, h1, q⟩ := h
    have hlen : (ns.map V.int).length = ns.length := List.length_map _
    refine ⟨_, rfl, _, rfl, a, _, rfl, .inl hs, m, _, rfl, 1, _, rfl, _, rfl, ?_⟩
    rw [hlen]
    generalize hn : (if (if (ns.length : Int) < m then (ns.length : Int) else m) > 1 then (if (ns.length : Int) < m then (ns.length : Int) else m) else 1) = n
    have hn1 : 1 ≤ n ∧ n ≤ 10 := by
      rw [← hn]
      split <;> split <;> omega
    refine ⟨by omega, by omega, fun D hD => ?_⟩
    refine lc_range (lo := 0) (n := n.toNat) (fun i H' => ∃ ps : List Addr, Ex H H' ∧ H' D = some (.lst (ps.map V.ref)) ∧ ps.Nodup ∧ ps.length = i ∧ ∀ r ∈ ps, r ≠ D ∧ ∃ c : Int, H' r = some (.lst [.int c, .int 0]))
      ⟨[], Ex.new hD, upd_same, List.nodup_nil, rfl, fun r hr => by cases hr⟩ (fun i H' hi p => ?_) (fun H' p => ?_)
    · obtain ⟨ps, e1, e2, e3, e4, e5⟩ := p
      refine ⟨wipe1_set _ _ _, ?_⟩
      refine ⟨_, rfl, _, rfl, a, ns, _, rfl, Evl.ex_l e1 hs, hl, by omega, by omega, fun c H2 ex2 => ⟨by show 2 ≤ sizeLine; decide, fun r hr => ⟨ps.map V.ref, ?_, ?_, ps ++ [r], ?_⟩⟩⟩
      · have hr' : r ≠ D := fun z => by rw [z, ex2 _ _ e2] at hr; cases hr
        rw [upd_ne (Ne.symm hr')]
        exact ex2 _ _ e2
      · rw [List.length_map, e4]
        exact sz_lt (by omega)
      · have hrD : r ≠ D := fun z => by rw [z, ex2 _ _ e2] at hr; cases hr
        have hrp : r ∉ ps := fun z => by
          obtain ⟨_, c', hc'⟩ := e5 r z
          rw [ex2 _ _ hc'] at hr
          cases hr
        have hDH : ∀ b o, H b = some o → b ≠ D := fun b o hb z => by rw [z, hD] at hb; cases hb
        refine ⟨fun b o hb => ?_, by rw [upd_same, List.map_append]; rfl, ?_, by simp [e4], fun r' hr' => ?_⟩
        · have h3 := ex2 _ _ (e1 b o hb)
          rw [upd_ne (hDH b o hb), upd_ne (ne_of_none h3 hr)]
          exact h3
        · refine List.nodup_append.mpr ⟨e3, by simp, fun x hx y hy => ?_⟩
          have : y = r := by simpa using hy
          rw [this]
          rintro rfl
          exact hrp hx
        · rcases List.mem_append.mp hr' with hr' | hr'
          · obtain ⟨n1, c', hc'⟩ := e5 r' hr'
            refine ⟨n1, c', ?_⟩
            have h3 := ex2 _ _ hc'
            rw [upd_ne n1, upd_ne (ne_of_none h3 hr)]
            exact h3
          · have : r' = r := by simpa using hr'
            subst this
            refine ⟨hrD, c, ?_⟩
            rw [upd_ne hrD, upd_same]
    · obtain ⟨ps, e1, e2, e3, e4, e5⟩ := p
      exact q D ps H' e1 e2 e3 e5

end
end U
namespace U
open PySem L2 PyProof.Rows DL
open Evl (Ex)
open LamX (lamS_by)
section
variable {P : Program} {w : World} {K : PySem.W.Frag} {mg : Str → Option Value} {base : Heap} {xa : Str → Addr} {Cd cd Pd Pt : Addr}
abbrev s_is_whole : Stmt := topS 19
theorem sc_is_whole : FnScope ["value", "low", "high"] ["value", "low", "high"] (defScope s_is_whole) := ⟨rfl, rfl, rfl, by decide +kernel, rfl, by decide +kernel, by decide +kernel⟩
theorem bd_is_whole : BindsAs "is_whole" s_is_whole ["value", "low", "high"] := fun _ _ _ _ _ _ us hl => match us, hl with | [_, _, _], _ => rfl

def R_is_whole : List PyData → Res → Prop := fun ds r => ∃ d lo hi, ds = [d, .int lo, .int hi] ∧ r = .ok (.bool (wholeB d lo hi))
theorem ok_is_whole (F : Fn K mg "is_whole" s_is_whole) (B : Bt mg) : Cal P w K mg base 1 "is_whole" ["value", "low", "high"] (spP R_is_whole) :=
  calQ F sc_is_whole bd_is_whole (fun ds r ⟨_, _, _, e, _⟩ => by rw [e]; rfl) fun f cdv A outer s H E hr => by
  refine ⟨_, (pss_one (ps_ret (pe_and (pe_callB (isiK (K := K) rfl) (by rfl) B.isinstance bb_isinstance (pa_cons (pv 0) (pa_cons (pe_bltn (v := .ty "int") (by rfl) B.int bb_int rfl) pa_nil))) (pe_and (pe_not (pe_callB (isiK (K := K) rfl) (by rfl) B.isinstance bb_isinstance (pa_cons (pv 0) (pa_cons (pe_bltn (v := .ty "bool") (by rfl) B.bool bb_bool rfl) pa_nil)))) (pe_one (pe_chain op_le op_le (pv 1) (pv 0) (pv 2))))))), fun ds r ⟨d, lo, hi, e1, e2⟩ => ?_⟩
  subst e1 e2
  cases d with
  | int i => exact ⟨_, ss_ret (ee_andT (ee_isInt (d := .int i) (ee_var rfl)) (ee_andT (ee_not (ee_isBool (d := .int i) (ee_var rfl))) (ee_chain (ee_var rfl) (ee_var rfl) re_le fun _ => ⟨_, ee_var rfl, re_le⟩))), rfl⟩
  | bool b => exact ⟨_, ss_ret (ee_andT (ee_isInt (d := .bool b) (ee_var rfl)) (ee_andF (ee_not (ee_isBool (d := .bool b) (ee_var rfl))))), rfl⟩
  | none => exact ⟨_, ss_ret (ee_andF (ee_isInt (d := .none) (ee_var rfl))), rfl⟩
  | str x => exact ⟨_, ss_ret (ee_andF (ee_isInt (d := .str x) (ee_var rfl))), rfl⟩
  | list x => exact ⟨_, ss_ret (ee_andF (ee_isInt (d := .list x) (ee_var rfl))), rfl⟩
  | tuple x => exact ⟨_, ss_ret (ee_andF (ee_isInt (d := .tuple x) (ee_var rfl))), rfl⟩
  | dict x => exact ⟨_, ss_ret (ee_andF (ee_isInt (d := .dict x) (ee_var rfl))), rfl⟩

end
end U
namespace U
open PySem L2 PyProof.Rows DL
open Evl (Ex)
open LamX (lamS_by)
section
variable {P : Program} {w : World} {K : PySem.W.Frag} {mg : Str → Option Value} {base : Heap} {xa : Str → Addr} {Cd cd Pd Pt : Addr}
abbrev s_is_pair : Stmt := topS 20
theorem sc_is_pair : FnScope ["value", "high", "one"] ["value", "high"] (defScope s_is_pair) := ⟨rfl, rfl, rfl, by decide +kernel, rfl, by decide +kernel, by decide +kernel⟩
theorem bd_is_pair : BindsAs "is_pair" s_is_pair ["value", "high"] := fun _ _ _ _ _ _ us hl => match us, hl with | [_, _], _ => rfl

def R_is_pair : List PyData → Res → Prop := fun ds r => ∃ d hi, ds = [d, .int hi] ∧ r = .ok (.bool (pairB d hi))
theorem pairB_len {xs : List PyData} {hi : Int} (h : xs.length ≠ 2) : pairB (.tuple xs) hi = false := by
  unfold pairB
  split
  · rename_i a b e
    cases e
    exact absurd rfl h
  · rfl
theorem pairB_two (x y : PyData) (hi : Int) : pairB (.tuple [x, y]) hi = true → wholeB x 0 hi = true ∧ wholeB y 0 hi = true := by
  intro h
  unfold pairB at h
  split at h
  · rename_i a b e
    cases e
    simp only [Bool.and_eq_true] at h
    exact ⟨by unfold wholeB; simp only [Bool.and_eq_true]; exact h.1, by unfold wholeB; simp only [Bool.and_eq_true]; exact h.2.1⟩
  · cases h
theorem ok_is_pair (F : Fn K mg "is_pair" s_is_pair) (B : Bt mg) (c_is_whole : Cal P w K mg base 1 "is_whole" ["value", "low", "high"] (spP R_is_whole)) : Cal P w K mg base 2 "is_pair" ["value", "high"] (spP R_is_pair) :=
  calQ F sc_is_pair bd_is_pair (fun ds r ⟨_, _, e, _⟩ => by rw [e]; rfl) fun f cdv A outer s H E hr => by
  refine ⟨_, (pss_cons (ps_if (PW.pt (pw_or (pt_not (pt_val (pe_callB (isiK (K := K) rfl) (by rfl) B.isinstance bb_isinstance (pa_cons (pv 0) (pa_cons (pe_bltn (v := .ty "tuple") (by rfl) B.tuple bb_tuple rfl) pa_nil))))) (pw_or (pt_cmpR op_ne (pe_callB (lenK (K := K) rfl) (by rfl) B.len bb_len (pa_cons (pv 0) pa_nil)) pe_int (nomark _)) (pw_or1 (pt_not (pt_val (pe_callB (allK (K := K) rfl rfl) (by rfl) B.all bb_all (pa_cons (pe_lc (own := [("one", 2)]) (g := (gName 2)) (tt := tYes) rfl sc_is_pair.nd (piT (K := K) rfl (pv 0)) (blkOk_by (own := [("one", 2)]) (N := ["value", "high", "one"]) (sc := defScope s_is_pair) (by decide +kernel)) (fun _ _ _ _ _ => (pg_name (i := 2) sc_is_pair.nd rfl (Or.inl rfl))) (fun _ _ _ _ _ => pts_nil) (fun _ _ _ _ _ => (pe_cal c_is_whole (hr.mono (by decide)) (by rfl) (pa_cons (pv 2) (pa_cons pe_int (pa_cons (pv 1) pa_nil)))))) pa_nil)))))))) (pss_one (ps_ret pe_bl)) pss_nil)
      (pss_one (ps_ret (pe_cmpR op_lt (pe_ix (ixT (K := K) rfl) (pv 0) pe_int (fun _ _ => rfl)) (pe_ix (ixT (K := K) rfl) (pv 0) pe_int (fun _ _ => rfl)) (nomark _))))), fun ds r ⟨d, hi, e1, e2⟩ => ?_⟩
  subst e1 e2
  have nt : isTup d = false → pairB d hi = false := fun h => by cases d <;> first | rfl | cases h
  cases hd : isTup d with
  | false =>
    rw [nt hd]
    exact ⟨_, ss_seqR (ss_if (et_orT (et_not (et_B (ee_is_bool (ee_isTup (ee_var rfl)) hd)))) (fun _ => ss_ret ee_bl) (fun h => by cases h)), rfl⟩
  | true =>
    obtain ⟨xs, rfl⟩ : ∃ xs, d = .tuple xs := by cases d <;> first | exact ⟨_, rfl⟩ | cases hd
    have t1 : ET [] (tNot (tB (tCB (rIsi K) (tCons (tVar 0) (tCons (tC (.ty "tuple")) tNil))))) (slots 3 [.tuple xs, .int hi]) false (slots 3 [.tuple xs, .int hi]) := et_not (et_B (ee_isTup (d := .tuple xs) (ee_var rfl)))
    have t2 : ET [] (tTest (tOp rNe (tCB (rLenQ K) (tCons (tVar 0) tNil)) (tC (.int 2)))) (slots 3 [.tuple xs, .int hi]) (!decide ((xs.length : Int) = 2)) (slots 3 [.tuple xs, .int hi]) := et_test (ee_op (ee_cb (ea_1 (ee_var rfl)) rb_lenT) ee_int re_neI)
    by_cases hl : xs.length = 2
    · have t2' := t2.is (show (!decide ((xs.length : Int) = 2)) = false by rw [hl]; rfl)
      have t3 := et_not (et_B (ee_cb (r := rAll K) (ea_1 (el_lcT (T := []) (K := K) (tl := tVar 0) (ρ := slots 3 [.tuple xs, .int hi]) (g := gName 2) (tt := tYes) (te := tCall (spP R_is_whole) [] E0 (tCons (tVar 2) (tCons (tC (.int 0)) (tCons (tVar 1) tNil)))) (vs := [2])
        (ee_var rfl) (lcr_dbools (fun d => wholeB d 0 hi) xs fun x _ => lc1m (by intro _ _ h; cases h) (ee_call (ea_3 (ee_var rfl) ee_int (ee_var rfl)) ⟨x, 0, hi, rfl, rfl⟩)) (by simp [hl])).ee) rb_all))
      obtain ⟨x, y, rfl⟩ : ∃ x y, xs = [x, y] := by
        match xs, hl with
        | [x, y], _ => exact ⟨x, y, rfl⟩
      have e : (([x, y].map fun d => wholeB d 0 hi).all id) = (wholeB x 0 hi && wholeB y 0 hi) := by simp
      rw [e] at t3
      cases hx : (wholeB x 0 hi && wholeB y 0 hi) with
      | false =>
        rw [hx] at t3
        have : pairB (.tuple [x, y]) hi = false := by
          cases q : pairB (.tuple [x, y]) hi with
          | false => rfl
          | true =>
            have := pairB_two x y hi q
            rw [this.1, this.2] at hx
            cases hx
        rw [this]
        exact ⟨_, ss_seqR (ss_if (et_orF t1 (et_orF t2' t3)) (fun _ => ss_ret ee_bl) (fun h => by cases h)), rfl⟩
      | true =>
        rw [hx] at t3
        rw [Bool.and_eq_true] at hx
        obtain ⟨a, rfl⟩ : ∃ a, x = .int a := by cases x <;> first | exact ⟨_, rfl⟩ | exact absurd hx.1 (by simp [wholeB])
        obtain ⟨b, rfl⟩ : ∃ b, y = .int b := by cases y <;> first | exact ⟨_, rfl⟩ | exact absurd hx.2 (by simp [wholeB])
        refine ⟨_, ss_seq (ss_if (et_orF t1 (et_orF t2' t3)) (fun h => by cases h) (fun _ => ss_next)) (ss_ret (ee_op (ee_op (ee_var rfl) ee_int (re_ixT (d := .int a) rfl)) (ee_op (ee_var rfl) ee_int (re_ixT (d := .int b) rfl)) re_lt)), ?_⟩
        show PyData.bool _ = PyData.bool _
        have h1 := hx.1
        have h2 := hx.2
        unfold wholeB at h1 h2
        simp only [Bool.and_eq_true, decide_eq_true_eq] at h1 h2
        simp [pairB, h1, h2]
    · have t2' := t2.is (show (!decide ((xs.length : Int) = 2)) = true by simp; omega)
      rw [pairB_len hl]
      exact ⟨_, ss_seqR (ss_if (et_orF t1 (et_orT t2')) (fun _ => ss_ret ee_bl) (fun h => by cases h)), rfl⟩

end
end U
namespace U
open PySem L2 PyProof.Rows DL
open Evl (Ex)
open LamX (lamS_by)
section
variable {P : Program} {w : World} {K : PySem.W.Frag} {mg : Str → Option Value} {base : Heap} {xa : Str → Addr} {Cd cd Pd Pt : Addr}
abbrev s_is_web : Stmt := topS 21
theorem sc_is_web : FnScope ["value", "many", "lines", "one", "at"] ["value"] (defScope s_is_web) := ⟨rfl, rfl, rfl, by decide +kernel, rfl, by decide +kernel, by decide +kernel⟩
theorem bd_is_web : BindsAs "is_web" s_is_web ["value"] := fun _ _ _ _ _ _ us hl => match us, hl with | [_], _ => rfl

def R_is_web : List PyData → Res → Prop := fun ds r => ∃ d, ds = [d] ∧ smallW d ∧ r = .ok (.bool (webB d))
theorem ok_is_web (F : Fn K mg "is_web" s_is_web) (B : Bt mg) (c_is_whole : Cal P w K mg base 1 "is_whole" ["value", "low", "high"] (spP R_is_whole)) (c_is_pair : Cal P w K mg base 2 "is_pair" ["value", "high"] (spP R_is_pair)) : Cal P w K mg base 3 "is_web" ["value"] (spP R_is_web) :=
  calQ F sc_is_web bd_is_web (fun ds r ⟨_, e, _⟩ => by rw [e]; rfl) fun f cdv A outer s H E hr => by
  refine ⟨_, (pss_cons (ps_if (PW.pt (pw_or (pt_not (pt_val (pe_callB (isiK (K := K) rfl) (by rfl) B.isinstance bb_isinstance (pa_cons (pv 0) (pa_cons (pe_bltn (v := .ty "tuple") (by rfl) B.tuple bb_tuple rfl) pa_nil))))) (pw_or (pt_cmpR op_ne (pe_callB (lenK (K := K) rfl) (by rfl) B.len bb_len (pa_cons (pv 0) pa_nil)) pe_int (nomark _)) (pw_or1 (pt_not (pt_val (pe_cal c_is_whole (hr.mono (by decide)) (by rfl) (pa_cons (pe_ix (ixT (K := K) rfl) (pv 0) pe_int (fun _ _ => rfl)) (pa_cons pe_int (pa_cons pe_int pa_nil)))))))))) (pss_one (ps_ret pe_bl)) pss_nil)
      (pss_cons (ps_asg (pv 0) (pgT (K := K) rfl rfl (pgs_cons (pg_name (i := 1) sc_is_web.nd rfl (Or.inr rfl)) (pgs_cons (pg_name (i := 2) sc_is_web.nd rfl (Or.inr rfl)) pgs_nil))))
      (pss_cons (ps_if (PW.pt (pw_or (pt_not (pt_val (pe_callB (isiK (K := K) rfl) (by rfl) B.isinstance bb_isinstance (pa_cons (pv 2) (pa_cons (pe_bltn (v := .ty "tuple") (by rfl) B.tuple bb_tuple rfl) pa_nil))))) (pw_or1 (pt_not (pt_val (pe_callB (allK (K := K) rfl rfl) (by rfl) B.all bb_all (pa_cons (pe_lc (own := [("one", 3)]) (g := (gName 3)) (tt := tYes) rfl sc_is_web.nd (piT (K := K) rfl (pv 2)) (blkOk_by (own := [("one", 3)]) (N := ["value", "many", "lines", "one", "at"]) (sc := defScope s_is_web) (by decide +kernel)) (fun _ _ _ _ _ => (pg_name (i := 3) sc_is_web.nd rfl (Or.inl rfl))) (fun _ _ _ _ _ => pts_nil) (fun _ _ _ _ _ => (pe_cal c_is_pair (hr.mono (by decide)) (by rfl) (pa_cons (pv 3) (pa_cons (pe_op op_sub (pv 1) pe_int) pa_nil))))) pa_nil))))))) (pss_one (ps_ret pe_bl)) pss_nil)
      (pss_one (ps_ret (pe_callB (allK (K := K) rfl rfl) (by rfl) B.all bb_all (pa_cons (pe_lc (own := [("at", 4)]) (g := (gName 4)) (tt := tYes) rfl sc_is_web.nd (pi_range1 (by rfl) B.range (pa_cons (pe_op op_sub (pe_callB (lenK (K := K) rfl) (by rfl) B.len bb_len (pa_cons (pv 2) pa_nil)) pe_int) pa_nil)) (blkOk_by (own := [("at", 4)]) (N := ["value", "many", "lines", "one", "at"]) (sc := defScope s_is_web) (by decide +kernel)) (fun _ _ _ _ _ => (pg_name (i := 4) sc_is_web.nd rfl (Or.inl rfl))) (fun _ _ _ _ _ => pts_nil) (fun _ _ _ _ _ => (pe_cmpR (ltTK (K := K) rfl (hu0 hr)) (pe_ix (ixT (K := K) rfl) (pv 2) (pv 4) (fun _ _ => rfl)) (pe_ix (ixT (K := K) rfl) (pv 2) (pe_op op_add (pv 4) pe_int) (fun _ _ => rfl)) (nomark _)))) pa_nil))))))), fun ds r ⟨d, e1, hsm, e2⟩ => ?_⟩
  subst e1 e2
  cases hd : isTup d with
  | false =>
    rw [webB_tup hd]
    exact ⟨_, ss_seqR (ss_if (et_orT (et_not (et_B (ee_is_bool (ee_isTup (ee_var rfl)) hd)))) (fun _ => ss_ret ee_bl) (fun h => by cases h)), rfl⟩
  | true =>
    obtain ⟨xs, rfl⟩ : ∃ xs, d = .tuple xs := by cases d <;> first | exact ⟨_, rfl⟩ | cases hd
    by_cases hl : xs.length = 2
    · obtain ⟨x, y, rfl⟩ : ∃ x y, xs = [x, y] := by
        match xs, hl with
        | [x, y], _ => exact ⟨x, y, rfl⟩
      cases hx : wholeB x 1 6 with
      | false =>
        rw [webB_first hx]
        exact ⟨_, ss_seqR (ss_if (et_orF (et_not (et_B (ee_isTup (d := .tuple [x, y]) (ee_var rfl)))) (et_orF (et_test (ee_op (ee_cb (ea_1 (ee_var rfl)) (rb_lenT (es := [x, y]))) ee_int re_neI)) (et_not (et_B (ee_is_bool (ee_call (ea_3 (ee_op (ee_var rfl) ee_int (re_ixT (d := x) rfl)) ee_int ee_int) ⟨x, 1, 6, rfl, rfl⟩) hx)))))
          (fun _ => ss_ret ee_bl) (fun h => by cases h)), rfl⟩
      | true =>
        obtain ⟨n, rfl⟩ : ∃ n, x = .int n := by cases x <;> first | exact ⟨_, rfl⟩ | exact absurd hx (by simp [wholeB])
        have first := ss_if (X := E) (o := .nx (slots 5 [.tuple [.int n, y]])) (t := tRet (tC (.bl false))) (u := tNext) (et_orF (T := []) (et_not (et_B (ee_isTup (K := K) (d := .tuple [.int n, y]) (ee_var (ρ := slots 5 [.tuple [.int n, y]]) (i := 0) rfl)))) (et_orF (et_test (ee_op (ee_cb (ea_1 (ee_var (i := 0) rfl)) (rb_lenT (K := K) (es := [.int n, y]))) (ee_int (i := 2)) re_neI)) (et_not (et_B (ee_is_bool (ee_call (R := R_is_whole) (E := E0) (ea_3 (ee_op (ee_var (i := 0) rfl) (ee_int (i := 0)) (re_ixT (K := K) (d := .int n) rfl)) (ee_int (i := 1)) (ee_int (i := 6))) ⟨.int n, 1, 6, rfl, rfl⟩) hx)))))
          (fun h => by cases h) (fun _ => ss_next)
        have second := ss_asg (X := E) (ee_var (T := []) (ρ := slots 5 [.tuple [.int n, y]]) (i := 0) rfl) (eg_tup2 (K := K) (i := 1) (j := 2))
        cases hy : isTup y with
        | false =>
          rw [webB_second hy]
          exact ⟨_, ss_seq first (ss_seq second (ss_seqR (ss_if (et_orT (et_not (et_B (ee_is_bool (ee_isTup (ee_var rfl)) hy)))) (fun _ => ss_ret ee_bl) (fun h => by cases h)))), rfl⟩
        | true =>
          obtain ⟨es, rfl⟩ : ∃ es, y = .tuple es := by cases y <;> first | exact ⟨_, rfl⟩ | cases hy
          have hes := hsm _ _ rfl
          have third := et_orF (T := []) (et_not (et_B (ee_isTup (K := K) (d := .tuple es) (ee_var (ρ := ((slots 5 [.tuple [.int n, .tuple es]]).set 1 (.dat (.int n))).set 2 (.dat (.tuple es))) (i := 2) rfl)))) (et_not (et_B (ee_cb (r := rAll K) (ea_1 (el_lcT (K := K) (tl := tVar 2) (g := gName 3) (tt := tYes) (vs := [3])
              (ee_var rfl) (lcr_dbools (fun d => pairB d (n - 1)) es fun x _ => lc1m (by intro _ _ h; cases h) (ee_call (R := R_is_pair) (E := E0) (ea_2 (ee_var (i := 3) rfl) (ee_op (ee_var (i := 1) rfl) (ee_int (i := 1)) re_sub)) ⟨x, n - 1, rfl, rfl⟩)) (by simp; omega)).ee) rb_all)))
          cases hall : (es.map fun d => pairB d (n - 1)).all id with
          | false =>
            rw [webB_pairs hall]
            rw [hall] at third
            exact ⟨_, ss_seq first (ss_seq second (ss_seqR (ss_if third (fun _ => ss_ret ee_bl) (fun h => by cases h)))), rfl⟩
          | true =>
            rw [hall] at third
            have hp : ∀ d ∈ es, pairB d (n - 1) = true := fun d hd => by
              rw [List.all_map, List.all_eq_true] at hall
              exact hall d hd
            obtain ⟨ps, rfl⟩ := pairs_of hp
            rw [webB_last hx hp, ← asc_is ps]
            have hps : ps.length ≤ 10000 := by simpa using hes
            have fourth := ss_ret (X := E) (ee_cb (T := []) (r := rAll K) (ea_1 (el_lcR1 (ρ := ((slots 5 [.tuple [.int n, .tuple (ps.map eP)]]).set 1 (.dat (.int n))).set 2 (.dat (.tuple (ps.map eP)))) (g := gName 4) (tt := tYes) (vs := [4]) (n := ((ps.map eP).length : Int) - 1)
              (ea_1 (ee_op (ee_cb (ea_1 (ee_var (i := 2) rfl)) (rb_lenT (K := K))) (ee_int (i := 1)) re_sub)) (by simp; omega) (lcr_bools (fun (i : Nat) => PyData.int (0 + (i : Int))) (fun i => HT.lexLt [(pAt ps i).1, (pAt ps i).2] [(pAt ps (i + 1)).1, (pAt ps (i + 1)).2]) (List.range (((ps.map eP).length : Int) - 1).toNat) fun i hi => by
                have hi' : i + 1 < ps.length := by
                  have := List.mem_range.mp hi
                  simp at this
                  omega
                have e0 : (0 : Int) + (i : Int) = ((i : Nat) : Int) := Int.zero_add _
                rw [e0]
                exact lc1m (by intro _ _ h; cases h) (ee_op (ee_op (ee_var (i := 2) rfl) (ee_var (i := 4) rfl) (re_ixT (K := K) (pAt_ok (by omega)))) (ee_op (ee_var (i := 2) rfl) (ee_op (ee_var (i := 4) rfl) (ee_int (i := 1)) re_add) (re_ixT (K := K) (pAt_ok hi'))) (re_ltT (K := K) (ns := [(pAt ps i).1, (pAt ps i).2]) (ms := [(pAt ps (i + 1)).1, (pAt ps (i + 1)).2])))) (by simp; omega)).ee) rb_all)
            have e1 : (((ps.map eP).length : Int) - 1).toNat = ps.length - 1 := by simp
            rw [e1] at fourth
            exact ⟨_, ss_seq first (ss_seq second (ss_seq (ss_if third (fun h => by cases h) (fun _ => ss_next)) fourth)), rfl⟩
    · rw [webB_len hl]
      exact ⟨_, ss_seqR (ss_if (et_orF (et_not (et_B (ee_isTup (d := .tuple xs) (ee_var rfl)))) (et_orT (ET.is (et_test (ee_op (ee_cb (ea_1 (ee_var rfl)) (rb_lenT (es := xs))) ee_int re_neI)) (show (!decide ((xs.length : Int) = 2)) = true by simp; omega)))) (fun _ => ss_ret ee_bl) (fun h => by cases h)), rfl⟩

end
end U
namespace U
open PySem L2 PyProof.Rows DL
open Evl (Ex)
open LamX (lamS_by)
section
variable {P : Program} {w : World} {K : PySem.W.Frag} {mg : Str → Option Value} {base : Heap} {xa : Str → Addr} {Cd cd Pd Pt : Addr}
abbrev s_need_web : Stmt := topS 22
theorem sc_need_web : FnScope ["web"] ["web"] (defScope s_need_web) := ⟨rfl, rfl, rfl, by decide +kernel, rfl, by decide +kernel, by decide +kernel⟩
theorem bd_need_web : BindsAs "need_web" s_need_web ["web"] := fun _ _ _ _ _ _ us hl => match us, hl with | [_], _ => rfl

def R_need_web (xa : XA) : List PyData → Res → Prop := fun ds r => ∃ d, ds = [d] ∧ smallW d ∧ r = needWeb xa d
theorem ok_need_web (F : Fn K mg "need_web" s_need_web) (B : Bt mg) (x_InvalidWeb : Xc K mg "InvalidWeb" (xa "InvalidWeb")) (c_is_web : Cal P w K mg base 3 "is_web" ["value"] (spP R_is_web)) : Cal P w K mg base 4 "need_web" ["web"] (spP (R_need_web xa)) :=
  calP F sc_need_web bd_need_web (fun ds r ⟨_, e, _⟩ => by rw [e]; rfl) fun f cdv A outer s H E hr => by
  refine ⟨_, (pss_one (ps_if (pt_not (pt_val (pe_cal c_is_web (hr.mono (by decide)) (by rfl) (pa_cons (pv 0) pa_nil)))) (pss_one (ps_raiseC (E := E) x_InvalidWeb rfl (by rfl) (takesN rfl rfl rfl rfl))) pss_nil)), fun ds r ⟨d, e1, hsm, e2⟩ => ?_⟩
  subst e1 e2
  unfold needWeb
  have t := et_not (et_B (ee_call (T := []) (E := E0) (R := R_is_web) (ea_1 (ee_var (ρ := slots 1 [d]) (i := 0) rfl)) ⟨d, rfl, hsm, rfl⟩))
  cases h : webB d with
  | true =>
    rw [h] at t
    exact ⟨_, ss_if t (fun h => by cases h) (fun _ => ss_next), rfl⟩
  | false =>
    rw [h] at t
    exact ⟨_, ss_if t (fun _ => ss_raiseC) (fun h => by cases h), rfl⟩

end
end U
/-! Ob: objects whose attributes hold data. -/
namespace DL
open PySem L2 PyProof.Rows
open Evl (Ex)
/-- an attribute set -/
def putD (f : Str) (d : PyData) : List (Str × PyData) → List (Str × PyData)
  | [] => [(f, d)]
  | (g, e) :: r => if g = f then (g, d) :: r else (g, e) :: putD f d r
section
variable {B : Hp}
theorem DtFs.get : ∀ {fs : List (Str × V)} {st : List (Str × PyData)} {f : Str} {d : PyData}, DtFs B fs st → st.lookup f = some d → ∃ v, fs.lookup f = some v ∧ Dt B v d
  | [], [], f, d, _, h => by simp at h
  | [], _ :: _, _, _, q, _ => by have := q.1; simp at this
  | _ :: _, [], _, _, q, _ => by have := q.1; simp at this
  | (g, v) :: fs, (g', e) :: st, f, d, q, h => by
    obtain ⟨q1, q2⟩ := q
    simp only [List.map_cons, List.cons.injEq] at q1
    obtain ⟨rfl, q1⟩ := q1
    have q2 : DtAll B (v :: fs.map (·.2)) (e :: st.map (·.2)) := q2
    cases q2 with
    | cons a b =>
      rw [List.lookup_cons] at h ⊢
      cases hb : f == g with
      | true => rw [hb] at h; cases h; exact ⟨v, rfl, a⟩
      | false => rw [hb] at h; exact DtFs.get ⟨q1, b⟩ h
theorem DtFs.none : ∀ {fs : List (Str × V)} {st : List (Str × PyData)} {f : Str}, DtFs B fs st → st.lookup f = none → fs.lookup f = none
  | [], [], f, _, h => rfl
  | [], _ :: _, _, q, _ => by have := q.1; simp at this
  | _ :: _, [], _, q, _ => by have := q.1; simp at this
  | (g, v) :: fs, (g', e) :: st, f, q, h => by
    obtain ⟨q1, q2⟩ := q
    simp only [List.map_cons, List.cons.injEq] at q1
    obtain ⟨rfl, q1⟩ := q1
    have q2 : DtAll B (v :: fs.map (·.2)) (e :: st.map (·.2)) := q2
    cases q2 with
    | cons a b =>
      rw [List.lookup_cons] at h ⊢
      cases hb : f == g with
      | true => rw [hb] at h; cases h
      | false => rw [hb] at h; exact DtFs.none ⟨q1, b⟩ h
theorem DtFs.len {fs : List (Str × V)} {st : List (Str × PyData)} (h : DtFs B fs st) : fs.length = st.length := by
  have := congrArg List.length h.1
  simpa using this
theorem DtFs.put {f : Str} {v : V} {d : PyData} (hv : Dt B v d) : ∀ {fs : List (Str × V)} {st : List (Str × PyData)}, DtFs B fs st → DtFs B (putF f v fs) (putD f d st)
  | [], [], _ => ⟨rfl, .cons hv .nil⟩
  | [], _ :: _, q => by have := q.1; simp at this
  | _ :: _, [], q => by have := q.1; simp at this
  | (g, x) :: fs, (g', e) :: st, q => by
    obtain ⟨q1, q2⟩ := q
    simp only [List.map_cons, List.cons.injEq] at q1
    obtain ⟨rfl, q1⟩ := q1
    have q2 : DtAll B (x :: fs.map (·.2)) (e :: st.map (·.2)) := q2
    cases q2 with
    | cons a b =>
      unfold putF putD
      by_cases h : g = f
      · rw [if_pos h, if_pos h]
        exact ⟨by simp [q1], .cons hv b⟩
      · rw [if_neg h, if_neg h]
        obtain ⟨r1, r2⟩ := DtFs.put hv (fs := fs) (st := st) ⟨q1, b⟩
        exact ⟨by simp [r1], .cons a r2⟩
end
/-- no object but at i -/
def soleF : Nat → List Sl → Nat → Bool
  | _, [], _ => true
  | n, .obj _ _ _ :: r, i => (n == i) && soleF (n + 1) r i
  | n, .no :: r, i => soleF (n + 1) r i
  | n, .dat _ :: r, i => soleF (n + 1) r i
  | n, .own _ _ :: r, i => soleF (n + 1) r i
  | n, .is _ :: r, i => soleF (n + 1) r i
theorem soleF_at : ∀ {ρ : List Sl} {n i : Nat}, soleF n ρ i = true → ∀ (j : Nat) p C st, ρ[j]? = some (.obj p C st) → n + j = i
  | [], _, _, _, j, p, C, st, hj => by simp at hj
  | s :: r, n, i, h, j, p, C, st, hj => by
    cases j with
    | zero =>
      have : s = .obj p C st := by simpa using hj
      subst this
      unfold soleF at h
      rw [Bool.and_eq_true] at h
      simpa using h.1
    | succ j =>
      have h' : soleF (n + 1) r i = true := by
        cases s <;> unfold soleF at h <;> first | exact h | (rw [Bool.and_eq_true] at h; exact h.2)
      have := soleF_at h' j p C st (by simpa using hj)
      omega
abbrev Sole (ρ : List Sl) (i : Nat) : Prop := soleF 0 ρ i = true
section
variable {T : TL} {F : Hp} {W : Addr → Prop} {B H B' H' : Hp} {σ : Sigma} {ρ ρ1 : List Sl} {i : Nat} {p C : Addr} {st st' : List (Str × PyData)} {K : PySem.W.Frag} {X : XK} {f : Str} {d : PyData} {tv : TE}
theorem Env.obj (E : Env T F W B H σ ρ) (h : ρ[i]? = some (.obj p C st)) : σ[i]? = some (some (.ref p)) ∧ B p = none ∧ F p = none ∧ ∃ dx fs, H p = some (.ins C dx fs) ∧ DtFs B fs st := by
  obtain ⟨o, h1, rfl, h2, h3, h4⟩ := E.sl i _ h
  exact ⟨h1, h2, h3, h4⟩
theorem ee_fld (h : ρ[i]? = some (.obj p C st)) (hf : st.lookup f = some d) (c : Cls K C) (n : NoAttr K C f) : EE T (tFld K (tVar i) f) ρ d ρ := fun F W B H σ Q E k => by
  obtain ⟨h1, h2, h3, dx, fs, h4, q⟩ := E.obj h
  obtain ⟨v, l, qv⟩ := q.get hf
  exact ⟨_, h1, p, C, dx, fs, v, rfl, h4, c, n, l, k v B H (Ex.refl _) E qv⟩
/-- the object's state behind a deed of its own -/
theorem Env.growM (E : Env T F W B H σ ρ) (hi : ρ[i]? = some (.obj p C st)) (so : Sole ρ i) (g : GrowO p B H B' H') {dx : Addr} {fs : List (Str × V)} (hy : H' p = some (.ins C dx fs)) (q : DtFs B' fs st') : Env T F W B' H' σ (ρ.set i (.obj p C st')) := by
  obtain ⟨hp, hB, hF, dx0, fs0, hH, qx⟩ := E.obj hi
  have hil : i < ρ.length := (List.getElem?_eq_some_iff.mp hi).1
  refine ⟨fun a o ha => g.hh a o (ne_of_none ha hF) (E.fh a o ha), g.bh, E.wf, fun a ha => ?_, fun t ht => ?_, E.ft, g.bt E.bt, by rw [List.length_set]; exact E.ln, fun j s hs => ?_, fun a b r q1 q2 fs gs hab ha hb' => ?_⟩
  · refine g.nb a (E.wb a ha) (fun z => ?_)
    cases e : F a with
    | none => exact E.wf a ha e
    | some o => rw [E.fh a o e] at z; cases z
  · obtain ⟨ps, h1, h2, h3⟩ := E.tb t ht
    refine ⟨ps, g.hh _ _ (ne_of h1 hH (fun z => by cases z)) h1, h2, fun pos cv hc => ?_⟩
    obtain ⟨c, e1, e2⟩ := h3 pos cv hc
    exact ⟨c, e1, g.hh _ _ (ne_of e2 hH (fun z => by unfold LamX.CodeO at z; cases z)) e2⟩
  · by_cases hj : i = j
    · subst hj
      rw [List.getElem?_set_self hil] at hs
      cases hs
      exact ⟨_, hp, rfl, g.nb p hB (by rw [hH]; exact fun z => by cases z), hF, dx, fs, hy, q⟩
    · rw [List.getElem?_set_ne hj] at hs
      obtain ⟨o, h1, h2⟩ := E.sl j s hs
      refine ⟨o, h1, ?_⟩
      cases s with
      | no => trivial
      | dat d => obtain ⟨v, e, q'⟩ := h2; exact ⟨v, e, q'.mono g.bb⟩
      | is k => exact k.mono g.bb h2
      | obj r C' st'' => exact absurd (by have := soleF_at so j r C' st'' hs; omega) hj
      | own qb es' =>
        obtain ⟨r, zs, e', e1, e2, e3, q', qq⟩ := h2
        exact ⟨r, zs, e', g.nb r e1 (by rw [e3]; exact fun z => by cases z), e2, g.hh _ _ (ne_of e3 hH (fun z => by cases z)) e3, q'.mono g.bb, qq⟩
  · have key : ∀ (c : Nat) qc fs, (ρ.set i (.obj p C st'))[c]? = some (.own qc fs) → ρ[c]? = some (.own qc fs) := fun c qc fs hc => by
      by_cases z : i = c
      · subst z; rw [List.getElem?_set_self hil] at hc; cases hc
      · rw [List.getElem?_set_ne z] at hc; exact hc
    exact E.ne a b r _ _ _ _ hab (key a q1 fs ha) (key b q2 gs hb')
theorem ss_fld (hv : EE T tv ρ d ρ1) (h : ρ1[i]? = some (.obj p C st)) (so : Sole ρ1 i) (c : Cls K C) (n : NoAttr K C f) (hl : st.length < 1000) : SS T X (sFld K (tVar i) tv f) ρ (.nx (ρ1.set i (.obj p C (putD f d st)))) := fun F W D B H σ E k =>
  hv F W B H σ _ E fun v B1 H1 e1 E1 q1 => by
    obtain ⟨h1, h2, h3, dx, fs, h4, q⟩ := E1.obj h
    refine ⟨_, h1, p, C, dx, fs, rfl, h4, c, n, by rw [q.len]; exact hl, k σ B1 _ e1 (E1.growM h so ⟨Ex.refl _, fun a o ha => ?_, fun a o ha ho => ?_, fun _ h _ => h, fun h => h⟩ upd_same (q.put q1))⟩
    · rw [upd_ne (ne_of_none ha h2)]; exact E1.bh a o ha
    · rw [upd_ne ha]; exact ho
end
/-! ### methods -/
abbrev Fs := List (Str × PyData)
/-- a method of data: the object's state st to st' -/
def spM (C : Addr) (R : Fs → List PyData → Res → Fs → Prop) : Sp := fun vs H Q E => ∃ B p dx us fs st ds r st', vs = .ref p :: us ∧ Ex B H ∧ (∀ a ps, B a ≠ some (.tbl ps)) ∧ B p = none ∧ H p = some (.ins C dx fs) ∧ DtFs B fs st ∧ DtAll B us ds ∧ R st ds r st' ∧
  (match r with
    | .ok d => ∀ v B' H' dx' gs, GrowO p B H B' H' → H' p = some (.ins C dx' gs) → DtFs B' gs st' → Dt B' v d → Q v H'
    | .ex X => ∀ B' H' dx' gs, GrowO p B H B' H' → H' p = some (.ins C dx' gs) → DtFs B' gs st' → E (.ref X) none H')
def slotsM (p C : Addr) (n : Nat) (st : Fs) (ds : List PyData) : List Sl := .obj p C st :: (ds.map Sl.dat ++ List.replicate (n - (ds.length + 1)) .no)
def AnswersM (p C : Addr) (st' : Fs) : Res → Out → Prop
  | .ok d, .rt d' ρ => d = d' ∧ ρ[0]? = some (.obj p C st')
  | .ok d, .nx ρ => d = .none ∧ ρ[0]? = some (.obj p C st')
  | .ex X, .ex X' ρ => X = X' ∧ ρ[0]? = some (.obj p C st')
  | _, _ => False
theorem startM_env {N : List Str} {p C dx : Addr} {us : List V} {fs : List (Str × V)} {st : List (Str × PyData)} {ds : List PyData} {B H : Hp} (hB : Ex B H) (hb : ∀ p ps, B p ≠ some (.tbl ps)) (hp : B p = none) (hH : H p = some (.ins C dx fs)) (qx : DtFs B fs st) (q : DtAll B us ds) :
    Env [] (fun a => if a = p then none else H a) (fun a => a ≠ p ∧ H a ≠ none ∧ B a = none) B H (L2.start N (.ref p :: us)) (slotsM p C N.length st ds) where
  fh := fun a o ha => by
    by_cases z : a = p
    · simp [z] at ha
    · simpa [z] using ha
  bh := hB
  wf := fun a ha => by simp [ha.1]; exact ha.2.1
  wb := fun a ha => ha.2.2
  tb := fun p hp => by cases hp
  ft := fun h => absurd rfl h
  bt := hb
  ln := by unfold L2.start slotsM; simp [q.length]
  sl := fun i s hs => by
    unfold slotsM at hs
    unfold L2.start
    cases i with
    | zero =>
      simp at hs
      subst hs
      exact ⟨some (.ref p), rfl, rfl, hp, by simp, dx, fs, hH, qx⟩
    | succ i =>
      have hs : (ds.map Sl.dat ++ List.replicate (N.length - (ds.length + 1)) Sl.no)[i]? = some s := by simpa using hs
      show ∃ o, (us.map some ++ List.replicate (N.length - (us.length + 1)) none)[i]? = some o ∧ _
      by_cases hi : i < ds.length
      · rw [List.getElem?_append_left (by simpa using hi)] at hs
        rw [List.getElem?_append_left (by simpa [q.length] using hi)]
        rw [List.getElem?_map] at hs ⊢
        cases e : ds[i]? with
        | none => rw [e] at hs; cases hs
        | some d =>
          rw [e] at hs
          cases hs
          obtain ⟨v, h1, h2⟩ := q.get e
          exact ⟨some v, by rw [h1]; rfl, v, rfl, h2⟩
      · rw [List.getElem?_append_right (by simpa using hi)] at hs
        rw [List.getElem?_append_right (by simpa [q.length] using hi)]
        rw [List.getElem?_replicate] at hs ⊢
        simp only [List.length_map, q.length] at hs ⊢
        split at hs
        · rename_i h
          cases hs
          exact ⟨none, by rw [if_pos h], trivial⟩
        · cases hs
  ne := fun i j r q1 q2 es fs hij hi hj => by
    have only : ∀ (k : Nat) qc gs, (slotsM p C N.length st ds)[k]? ≠ some (.own qc gs) := fun k qc gs hk => by
      cases k with
      | zero => unfold slotsM at hk; simp at hk
      | succ k =>
        unfold slotsM at hk
        have hk : (ds.map Sl.dat ++ List.replicate (N.length - (ds.length + 1)) Sl.no)[k]? = some (Sl.own qc gs) := by simpa using hk
        by_cases hl : k < ds.length
        · rw [List.getElem?_append_left (by simpa using hl), List.getElem?_map] at hk
          cases e : ds[k]? with
          | none => rw [e] at hk; cases hk
          | some d => rw [e] at hk; cases hk
        · rw [List.getElem?_append_right (by simpa using hl), List.getElem?_replicate] at hk
          split at hk <;> cases hk
    exact absurd hi (only i q1 es)
section
variable {P : Program} {w : World} {K : PySem.W.Frag} {mg : Str → Option Value} {base : Heap}
/-- a method that may be called -/
structure CalM (P : Program) (w : World) (K : PySem.W.Frag) (mg : Str → Option Value) (base : Heap) (k : Nat) (C : Addr) (m : Str) (ps : List Str) (sp : Sp) : Prop where
  ex : ∃ f fd, FnOk P w K mg base (L2N.CX P w) k f fd ps sp ∧ Meth K C m f ∧ Binds K fd ps []
theorem calM {m qual : Str} {C f : Addr} {fd : FuncData} {st : Stmt} {N ps : List Str} {k : Nat} {R : Fs → List PyData → Res → Fs → Prop} (Fu : Fun K m qual st f fd) (hm : Meth K C m f) (hbi : Binds K fd ps []) (S : FnScope N ps (defScope st)) (hl : ∀ cs ds r cs', R cs ds r cs' → ds.length + 1 = ps.length)
    (hb : ∀ (cdv : Value) (A : Around) (outer : List PySem.Env) (s : Shared) (H : Hp) (E : XK), Room k (A.deeper (envOfC qual (defScope st) s.heap.objs.size f cdv)) →
      ∃ t, PSs (cxOf (L2N.CX P w) P w K mg base N qual (defScope st) f cdv A outer s H E) (defBody st) t ∧ ∀ p cs ds r cs', R cs ds r cs' → ∃ o, SS [] E t (slotsM p C N.length cs ds) o ∧ AnswersM p C cs' r o) :
    CalM P w K mg base (k + 1) C m ps (spM C R) := by
  refine ⟨f, fd, Fu.okN S (fun vs H Q E h => ?_) (fun cdv A outer s H vs Q E hr h => ?_), hm, hbi⟩
  · obtain ⟨B, p, dx, us, fs, cs, ds, r, cs', rfl, _, _, _, _, _, q, hR, _⟩ := h
    rw [List.length_cons, q.length]; exact hl cs ds r cs' hR
  · obtain ⟨t, ht, hs⟩ := hb cdv A outer s H E hr
    refine ⟨t, ht, ?_⟩
    obtain ⟨B, p, dx, us, fs, cs, ds, r, cs', rfl, hB, hbt, hp, hH, qx, q, hR, k⟩ := h
    obtain ⟨o, ho, ha⟩ := hs p cs ds r cs' hR
    refine ho _ _ _ B H _ (startM_env hB hbt hp hH qx q) ?_
    have fin : ∀ {σ' : Sigma} {B' H' : Hp} {ρ' : List Sl}, Ex B B' → Env [] (fun a => if a = p then none else H a) (fun a => a ≠ p ∧ H a ≠ none ∧ B a = none) B' H' σ' ρ' → ρ'[0]? = some (.obj p C cs') → GrowO p B H B' H' ∧ ∃ dx' gs, H' p = some (.ins C dx' gs) ∧ DtFs B' gs cs' := fun {σ' B' H' ρ'} e E' h0 => by
      obtain ⟨f1, f2, f3, dx', gs, f4, f5⟩ := E'.obj h0
      exact ⟨endO_grow hB e E' f2, dx', gs, f4, f5⟩
    cases r with
    | ok d =>
      cases o with
      | rt d' ρ' =>
        obtain ⟨e, h0⟩ := (ha : d = d' ∧ ρ'[0]? = some (.obj p C cs'))
        subst e
        exact fun v σ' B' H' e E' q' => by
          obtain ⟨g, dx', gs, a1, a2⟩ := fin e E' h0
          exact k v B' H' dx' gs g a1 a2 q'
      | nx ρ' =>
        obtain ⟨e, h0⟩ := (ha : d = .none ∧ ρ'[0]? = some (.obj p C cs'))
        subst e
        exact fun σ' B' H' e E' => by
          obtain ⟨g, dx', gs, a1, a2⟩ := fin e E' h0
          exact k .non B' H' dx' gs g a1 a2 .non
      | ex C ρ' => exact ha.elim
    | ex X =>
      cases o with
      | rt d' ρ' => exact ha.elim
      | nx ρ' => exact ha.elim
      | ex C' ρ' =>
        obtain ⟨e, h0⟩ := (ha : X = C' ∧ ρ'[0]? = some (.obj p C cs'))
        subst e
        exact fun σ' B' H' e E' => by
          obtain ⟨g, dx', gs, a1, a2⟩ := fin e E' h0
          exact k B' H' dx' gs g a1 a2
end
section
variable {T : TL} {E X : XK} {ρ ρ1 : List Sl} {d : PyData} {ds : List PyData} {ta : TA} {R : Fs → List PyData → Res → Fs → Prop} {i : Nat} {p C : Addr} {m : Str} {st0 st st' : Fs} {D : Addr}
/-- o.m(..) -/
theorem ee_meth (h0 : ρ[i]? = some (.obj p C st0)) (hm : st0.lookup m = none) (h : EA T ta ρ ds ρ1) (h1 : ρ1[i]? = some (.obj p C st)) (so : Sole ρ1 i) (hR : R st ds (.ok d) st') : EE T (tMeth C m (spM C R) [] E (tVar i) ta) ρ d (ρ1.set i (.obj p C st')) := fun F W B H σ Q Ev k => by
  obtain ⟨e, _, _, dx, fs, e4, q⟩ := Ev.obj h0
  refine ⟨_, e, p, dx, fs, rfl, e4, q.none hm, h F W B H σ _ Ev fun us B1 H1 e1 E1 q1 => ?_⟩
  obtain ⟨f1, f2, f3, dx1, fs1, f4, f5⟩ := E1.obj h1
  show spM C R (V.ref p :: (us ++ [])) H1 Q E
  rw [List.append_nil]
  exact ⟨B1, p, dx1, us, fs1, st, ds, .ok d, st', rfl, E1.bh, E1.bt, f2, f4, f5, q1, hR, fun v B' H' dx' gs g hz q q' => k v B' H' (e1.trans g.bb) (E1.growM h1 so g hz q) q'⟩
/-- a statement that is a method call that raises -/
theorem ss_methX (h0 : ρ[i]? = some (.obj p C st0)) (hm : st0.lookup m = none) (h : EA T ta ρ ds ρ1) (h1 : ρ1[i]? = some (.obj p C st)) (so : Sole ρ1 i) (hR : R st ds (.ex D) st') : SS T X (tDrop (tMeth C m (spM C R) [] X (tVar i) ta)) ρ (.ex D (ρ1.set i (.obj p C st'))) := fun F W Dd B H σ Ev k => by
  obtain ⟨e, _, _, dx, fs, e4, q⟩ := Ev.obj h0
  refine ⟨_, e, p, dx, fs, rfl, e4, q.none hm, h F W B H σ _ Ev fun us B1 H1 e1 E1 q1 => ?_⟩
  obtain ⟨f1, f2, f3, dx1, fs1, f4, f5⟩ := E1.obj h1
  show spM C R (V.ref p :: (us ++ [])) H1 _ X
  rw [List.append_nil]
  exact ⟨B1, p, dx1, us, fs1, st, ds, .ex D, st', rfl, E1.bh, E1.bt, f2, f4, f5, q1, hR, fun B' H' dx' gs g hz q => k σ B' H' (e1.trans g.bb) (E1.growM h1 so g hz q)⟩
end
end DL
/-! MirW: the webs that the laws draw. -/
namespace U
open PySem L2 DL
def rowP (n : Int) : List (Int × Int) := (ri 0 (n - 1).toNat).map fun a => (a, a + 1)
def starP (n : Int) : List (Int × Int) := (ri 1 (n - 1).toNat).map fun a => ((0 : Int), a)
def ringP (n : Int) : List (Int × Int) := sortP (rowP n ++ [(0, n - 1)])
def pickD (m : Int) : Dc → List (Int × Int) → List (Int × Int) × Dc
  | D, [] => ([], D)
  | D, p :: ps => ((if rollV D m = 0 then [p] else []) ++ (pickD m (rollS D m) ps).1, (pickD m (rollS D m) ps).2)
/-- the i-th left out -/
def dropAt {α : Type} (l : List α) (i : Int) : List α := l.take i.toNat ++ l.drop (i.toNat + 1)
def dropStep (s : List (Int × Int) × Dc) : List (Int × Int) × Dc := (dropAt s.1 (rollV s.2 s.1.length), rollS s.2 s.1.length)
def dropsD (xs : List Int) (s : List (Int × Int) × Dc) : List (Int × Int) × Dc := xs.foldl (fun s _ => dropStep s) s
def anyWeb (D : Dc) (most lines : Int) : Wb × Dc :=
  let n := 1 + rollV D most
  let a := rollV (rollS D most) 7
  let D2 := rollS (rollS D most) 7
  if a = 0 then ((n, rowP n), D2)
  else if a = 1 then ((n, starP n), D2)
  else if a = 2 ∧ 2 < n then ((n, ringP n), D2)
  else
    let f := pickD (1 + rollV D2 3) (rollS D2 3) (pairsN n)
    let g := dropsD (ri 0 (max 0 ((f.1.length : Int) - lines)).toNat) f
    ((n, g.1), g.2)
theorem pick_sub (m : Int) : ∀ (ps : List (Int × Int)) (D : Dc), (pickD m D ps).1.Sublist ps
  | [], _ => .slnil
  | p :: ps, D => by
    have ih := pick_sub m ps (rollS D m)
    show ((if rollV D m = 0 then [p] else []) ++ (pickD m (rollS D m) ps).1).Sublist (p :: ps)
    split
    · exact ih.cons₂ p
    · exact ih.cons p
theorem dropAt_sub {α : Type} (l : List α) (i : Int) : (dropAt l i).Sublist l := by
  unfold dropAt
  have := List.Sublist.append (List.Sublist.refl (l.take i.toNat)) (List.drop_sublist_drop_left l (Nat.le_succ i.toNat))
  rw [List.take_append_drop] at this
  exact this
theorem dropAt_len {α : Type} (l : List α) {i : Int} (h0 : 0 ≤ i) (h1 : i < l.length) : (dropAt l i).length + 1 = l.length := by
  unfold dropAt
  rw [List.length_append, List.length_take, List.length_drop]
  omega
theorem drops_sub : ∀ (xs : List Int) (s : List (Int × Int) × Dc), (dropsD xs s).1.Sublist s.1
  | [], _ => List.Sublist.refl _
  | _ :: xs, s => (drops_sub xs (dropStep s)).trans (dropAt_sub _ _)
theorem drops_len : ∀ (xs : List Int) (s : List (Int × Int) × Dc), xs.length ≤ s.1.length → (dropsD xs s).1.length + xs.length = s.1.length
  | [], _, _ => rfl
  | x :: xs, s, h => by
    have hl : (dropStep s).1.length + 1 = s.1.length := dropAt_len s.1 (rollV_lo _ (by simp at h; omega)) (rollV_hi _ (by simp at h; omega))
    have := drops_len xs (dropStep s) (by simp at h; omega)
    show (dropsD xs (dropStep s)).1.length + (xs.length + 1) = _
    omega
theorem ascB_iff : ∀ (ps : List (Int × Int)), ascB ps = true → ps.Pairwise (fun p q => ltPr p q = true)
  | [], _ => .nil
  | [p], _ => .cons (fun _ h => by cases h) .nil
  | p :: q :: ps, h => by
    have h' : ltPr p q = true ∧ ascB (q :: ps) = true := by
      unfold ascB at h
      simpa only [Bool.and_eq_true] using h
    have ih := ascB_iff (q :: ps) h'.2
    refine .cons (fun r hr => ?_) ih
    rcases List.mem_cons.mp hr with rfl | hr
    · exact h'.1
    · have h2 := List.rel_of_pairwise_cons ih hr
      have h1 := h'.1
      unfold ltPr at h1 h2 ⊢
      split at h1 <;> split at h2 <;> split <;> simp only [decide_eq_true_eq] at * <;> omega
theorem ascB_of : ∀ (ps : List (Int × Int)), ps.Pairwise (fun p q => ltPr p q = true) → ascB ps = true
  | [], _ => rfl
  | [p], _ => rfl
  | p :: q :: ps, h => by
    unfold ascB
    simp only [Bool.and_eq_true]
    exact ⟨List.rel_of_pairwise_cons h List.mem_cons_self, ascB_of (q :: ps) h.tail⟩
theorem six {n : Int} (h1 : 1 ≤ n) (h6 : n ≤ 6) : n = 1 ∨ n = 2 ∨ n = 3 ∨ n = 4 ∨ n = 5 ∨ n = 6 := by omega
theorem row_ok : ∀ n ∈ [(1 : Int), 2, 3, 4, 5, 6], okW (n, rowP n) = true ∧ okW (n, starP n) = true ∧ (2 < n → okW (n, ringP n) = true ∧ (ringP n).length ≤ 6) ∧ okW (n, pairsN n) = true ∧ (rowP n).length ≤ 5 ∧ (starP n).length ≤ 5 ∧ (pairsN n).length ≤ 15 := by decide +kernel
theorem mem6 {n : Int} (h1 : 1 ≤ n) (h6 : n ≤ 6) : n ∈ [(1 : Int), 2, 3, 4, 5, 6] := by
  rcases six h1 h6 with h | h | h | h | h | h <;> subst h <;> decide
theorem sub_ok {n : Int} {ps qs : List (Int × Int)} (h : okW (n, qs) = true) (s : ps.Sublist qs) : okW (n, ps) = true := by
  have g := good_of h
  exact ok_of ⟨g.lo, g.hi, fun p hp => g.line p (s.subset hp), ascB_of _ ((ascB_iff _ g.asc).sublist s)⟩
/-- a drawn web is one; its places, its lines -/
theorem anyWeb_ok (D : Dc) {most lines : Int} (h1 : 1 ≤ most) (h6 : most ≤ 6) (hl : 0 ≤ lines) : okW (anyWeb D most lines).1 = true ∧ (anyWeb D most lines).1.1 ≤ most ∧ ((anyWeb D most lines).1.2.length : Int) ≤ max lines 6 ∧ (anyWeb D most lines).1.2.length ≤ 15 := by
  have hlo := rollV_lo D (m := most) (by omega)
  have hhi := rollV_hi D (m := most) (by omega)
  unfold anyWeb
  generalize hn : 1 + rollV D most = n
  have hn1 : 1 ≤ n ∧ n ≤ most := by omega
  obtain ⟨r1, r2, r3, r4, r5, r6, r7⟩ := row_ok n (mem6 hn1.1 (by omega))
  dsimp only
  split
  · exact ⟨r1, hn1.2, by show ((rowP n).length : Int) ≤ _; omega, by show (rowP n).length ≤ 15; omega⟩
  · split
    · exact ⟨r2, hn1.2, by show ((starP n).length : Int) ≤ _; omega, by show (starP n).length ≤ 15; omega⟩
    · split
      · rename_i h
        obtain ⟨a, b⟩ := r3 h.2
        exact ⟨a, hn1.2, by show ((ringP n).length : Int) ≤ _; omega, by show (ringP n).length ≤ 15; omega⟩
      · generalize hf : pickD (1 + rollV (rollS (rollS D most) 7) 3) (rollS (rollS (rollS D most) 7) 3) (pairsN n) = f
        have s1 : f.1.Sublist (pairsN n) := by rw [← hf]; exact pick_sub _ _ _
        have l1 := s1.length_le
        have s2 := drops_sub (ri 0 (max 0 ((f.1.length : Int) - lines)).toNat) f
        have l2 := drops_len (ri 0 (max 0 ((f.1.length : Int) - lines)).toNat) f (by rw [ri_len]; omega)
        rw [ri_len] at l2
        refine ⟨sub_ok r4 (s2.trans s1), hn1.2, ?_, ?_⟩
        · show (((dropsD (ri 0 (max 0 ((f.1.length : Int) - lines)).toNat) f).1.length : Nat) : Int) ≤ _
          omega
        · show (dropsD (ri 0 (max 0 ((f.1.length : Int) - lines)).toNat) f).1.length ≤ 15
          omega
theorem cut_to (l : List PyData) {i : Int} (h0 : 0 ≤ i) : cutD l none (some i) = l.take i.toNat := by
  unfold cutD
  show (l.drop 0).take ((if i < 0 then (i + (l.length : Int)).toNat else min i.toNat l.length) - 0) = _
  rw [if_neg (by omega), List.drop_zero, Nat.sub_zero]
  rcases Nat.le_total i.toNat l.length with h | h
  · rw [Nat.min_eq_left h]
  · rw [Nat.min_eq_right h, List.take_length, List.take_of_length_le h]
theorem cut_from (l : List PyData) {i : Int} (h0 : 0 ≤ i) : cutD l (some i) none = l.drop i.toNat := by
  unfold cutD
  show (l.drop (if i < 0 then (i + (l.length : Int)).toNat else min i.toNat l.length)).take (l.length - (if i < 0 then (i + (l.length : Int)).toNat else min i.toNat l.length)) = _
  rw [if_neg (by omega)]
  rcases Nat.le_total i.toNat l.length with h | h
  · rw [Nat.min_eq_left h]
    exact List.take_of_length_le (by rw [List.length_drop]; omega)
  · rw [Nat.min_eq_right h, List.drop_length, List.drop_of_length_le h]
    simp
theorem cut_drop {α : Type} (enc : α → PyData) (l : List α) {i : Int} (h0 : 0 ≤ i) : cutD (l.map enc) none (some i) ++ cutD (l.map enc) (some (i + 1)) none = (dropAt l i).map enc := by
  rw [cut_to _ h0, cut_from _ (by omega)]
  unfold dropAt
  rw [List.map_append, List.map_take, List.map_drop, show (i + 1).toNat = i.toNat + 1 by omega]
theorem dropsD_snoc (xs : List Int) (x : Int) (s : List (Int × Int) × Dc) : dropsD (xs ++ [x]) s = dropStep (dropsD xs s) := by
  unfold dropsD
  rw [List.foldl_append]; rfl
end U
/-! RepT: tuple * int from 1 on. -/
namespace DL
open PySem PySem.Spec PyProof.Rows L2
open Evl (Ex)
theorem tuple_mul1 (l : Addr) (items : Array Value) (n : Nat) (dd : Option Addr) (sl : Array (Option Value)) (u : Tok) :
    Meets (Builtin.«tuple.__mul__» ⟨[.ref l, .int 1 u], []⟩) (fun _ R s => s.heap.get? l = some { cls := .type "tuple", dict := dd, data := .seq items n, slots := sl } ∧ R (.ok (.ret (Value.ref l))) s) :=
  .of_wp fun prog w A R s h => by
    obtain ⟨hp, g, d, tk, os⟩ := s
    obtain ⟨hl, h⟩ := h
    have f1 := AutoSeq1.idx_int
    have c0 : (decide ((1 : Int) < -(2 ^ 63)) || decide ((1 : Int) ≥ 2 ^ 63)) = false := by decide
    have c1 : (items.isEmpty || (1 : Int) == 1) = true := by simp
    wp_walk using wpAny_loadPart' hl
    repeat (first
      | (refine wpAny_ite_false (decide_eq_false (by rw [c0]; exact Bool.false_ne_true)) ?_; wp_walk using wpAny_loadPart' hl)
      | (refine wpAny_ite_true (decide_eq_true (by rw [c1])) ?_; wp_walk using wpAny_loadPart' hl))
    exact ⟨_, rfl, h⟩
def rRep1 (K : PySem.W.Frag) : R2 := fun x y H Q => ∃ l k xs, x = .ref l ∧ y = .int k ∧ SqT K H l xs ∧ xs ≠ [] ∧ 1 ≤ k ∧ k ≤ 1000 ∧ xs.length ≤ 1000 ∧ (k = 1 → Q (.ref l) H) ∧ (k ≠ 1 → ∀ p, H p = none → Q (.ref p) (upd H p (.tup (List.replicate k.toNat xs).flatten)))
theorem op_rep1 {X : Cx} : OpR X (binaryOp .Mult) (rRep1 X.K) := by
  intro pins s σ H x y v u Q I rx ry h
  obtain ⟨l, k, xs, rfl, rfl, hT, hne, h1, h2, hz, q1, q2⟩ := h
  by_cases hk : k = 1
  · subst hk
    have q := q1 rfl
    cases rx
    obtain ⟨t, rfl⟩ := ry
    obtain ⟨its, r, ⟨⟨cls, dd, data, sl⟩, ho, hc, n, hd⟩, hs⟩ := I.tuple hT
    simp only at hc hd
    subst hc hd
    exact wpAny_binaryOp_repeat_ref (T := "tuple") (U := "int") (by decide) ⟨_, ho, rfl⟩ (fun s' => typeIs_int s' 1 t) noFill_tuple_mul F.fills_int_mul F.slot_int_rmul repeat_tuple F.slot_int_index.lookup
      (call_meets F.slot_int_rmul (typeIs_int s 1 t) F.entry_int_rmul (F.args_int_rmul_2 _ _) (int_rmul_tuple 1 t l its.toArray n dd sl)
        ⟨ho, rfl, ⟨_, ho, rfl⟩, call_meets F.slot_tuple_mul ⟨_, ho, rfl⟩ F.entry_tuple_mul (F.args_tuple_mul_2 _ _) (tuple_mul1 l its.toArray n dd sl t) ⟨ho, .ref l, H, I, rfl, q⟩⟩)
  · exact op_repT pins s σ H (.ref l) (.int k) v u Q I rx ry ⟨l, k, xs, rfl, rfl, hT, hne, by omega, h2, hz, q2 hk⟩
theorem repK {X : Cx} {K : PySem.W.Frag} (h : X.K = K) : OpR X (binaryOp .Mult) (rRep1 K) := by subst h; exact op_rep1
theorem dt_flat {B : Hp} {vs : List V} {ds : List PyData} (q : DtAll B vs ds) : ∀ m : Nat, DtAll B (List.replicate m vs).flatten (List.replicate m ds).flatten
  | 0 => .nil
  | m + 1 => by
    rw [List.replicate_succ, List.replicate_succ, List.flatten_cons, List.flatten_cons]
    exact q.append (dt_flat q m)
theorem re_rep {K : PySem.W.Frag} {ds : List PyData} {k : Int} (hne : ds ≠ []) (h1 : 1 ≤ k) (h2 : k ≤ 1000) (hl : ds.length ≤ 1000) : RE (rRep1 K) (.tuple ds) (.int k) (.tuple (List.replicate k.toNat ds).flatten) := fun B H vx vy Q e bt q1 q2 kk => by
  obtain ⟨a, xs, rfl, hb, q⟩ := q1.inv_tup
  rw [q2.inv_int]
  refine ⟨a, k, xs, rfl, rfl, SqT.of (e _ _ hb), fun z => hne ?_, h1, h2, by rw [q.length]; exact hl, fun z => ?_, fun z p hp => ?_⟩
  · subst z; cases q; rfl
  · subst z
    refine kk _ B H (Grow.refl e) ?_
    rw [show (1 : Int).toNat = 1 from rfl, List.replicate_one, List.flatten_cons, List.flatten_nil, List.append_nil]
    exact .tup hb q
  · have g := Grow.new (o := .tup (List.replicate k.toNat xs).flatten) e hp (fun ps z => by cases z)
    exact kk _ _ _ g (.tup upd_same (dt_flat (q.mono g.bb) _))
end DL
/-! MirN: the numbers that the laws draw. -/
namespace U
open PySem L2 DL
abbrev Ns := (List Int × List Int) × Dc
def numStep (s : Ns) : Ns := ((s.1.1.filter fun y => !decide (y = at0 s.1.1 (rollV s.2 s.1.1.length)), s.1.2 ++ [at0 s.1.1 (rollV s.2 s.1.1.length)]), rollS s.2 s.1.1.length)
def numsD (xs : List Int) (s : Ns) : Ns := xs.foldl (fun s _ => numStep s) s
def anyNums (D : Dc) (many top : Int) : Ns := numsD (ri 0 (min many (top + 1)).toNat) ((ri 0 (top + 1).toNat, []), D)
theorem numsD_snoc (xs : List Int) (x : Int) (s : Ns) : numsD (xs ++ [x]) s = numStep (numsD xs s) := by
  unfold numsD
  rw [List.foldl_append]; rfl
theorem ri_nodup (lo : Int) (n : Nat) : (ri lo n).Nodup := by
  unfold ri
  refine List.pairwise_map.mpr (List.nodup_range.imp fun {a b} h z => h ?_)
  omega
theorem filter_ne_len {l : List Int} {x : Int} (nd : l.Nodup) (h : x ∈ l) : (l.filter fun y => !decide (y = x)).length + 1 = l.length := by
  have e : l.filter (fun y => !decide (y = x)) = l.erase x := by
    rw [nd.erase_eq_filter]
    congr 1
  rw [e, List.length_erase_of_mem h]
  have := List.length_pos_of_mem h
  omega
theorem at0_mem {l : List Int} {i : Int} (h0 : 0 ≤ i) (h1 : i < l.length) : at0 l i ∈ l := by
  unfold at0
  rw [List.getD_eq_getElem?_getD, List.getElem?_eq_getElem (by omega)]
  exact List.getElem_mem _
theorem nums_inv : ∀ (xs : List Int) (s : Ns), s.1.1.Nodup → xs.length ≤ s.1.1.length → (numsD xs s).1.1.Nodup ∧ (numsD xs s).1.1.length + xs.length = s.1.1.length ∧ (numsD xs s).1.2.length = s.1.2.length + xs.length
  | [], s, nd, _ => ⟨nd, rfl, rfl⟩
  | x :: xs, s, nd, h => by
    have hl : 0 < s.1.1.length := by simp at h; omega
    have hm := at0_mem (l := s.1.1) (rollV_lo s.2 (m := (s.1.1.length : Int)) (by omega)) (rollV_hi s.2 (by omega))
    have e := filter_ne_len nd hm
    obtain ⟨a, b, c⟩ := nums_inv xs (numStep s) (nd.filter _) (by show xs.length ≤ (List.filter _ _).length; simp at h; omega)
    refine ⟨a, ?_, ?_⟩
    · show (numsD xs (numStep s)).1.1.length + (xs.length + 1) = _
      have : (numStep s).1.1.length + 1 = s.1.1.length := e
      omega
    · show (numsD xs (numStep s)).1.2.length = _
      have : (numStep s).1.2.length = s.1.2.length + 1 := by show (s.1.2 ++ [_]).length = _; simp
      rw [c, this]; simp; omega
theorem anyNums_len (D : Dc) {many top : Int} (h0 : 0 ≤ many) (h1 : 0 ≤ top) : ((anyNums D many top).1.2.length : Int) = min many (top + 1) := by
  have := (nums_inv (ri 0 (min many (top + 1)).toNat) ((ri 0 (top + 1).toNat, []), D) (ri_nodup _ _) (by rw [ri_len]; show _ ≤ (ri 0 (top + 1).toNat).length; rw [ri_len]; omega)).2.2
  rw [ri_len] at this
  unfold anyNums
  rw [this]
  simp
  omega
def mapD (m : Int) : Dc → List Int → List Int × Dc
  | D, [] => ([], D)
  | D, _ :: xs => (rollV D m :: (mapD m (rollS D m) xs).1, (mapD m (rollS D m) xs).2)
theorem mapD_len (m : Int) : ∀ (xs : List Int) (D : Dc), (mapD m D xs).1.length = xs.length
  | [], _ => rfl
  | _ :: xs, D => by show (mapD m (rollS D m) xs).1.length + 1 = _; rw [mapD_len m xs]; rfl
/-- the law's own test -/
theorem lawNum_eq (w : Wb) (t : Int) (ns : List Int) : (if ((ns.length : Int) = w.1) ∧ dcount ns = ns.length then (ns.map fun n => decide (0 ≤ n) && decide (n ≤ t)).all id else false) = fitsN w t ns := by
  unfold fitsN unlikeN rangeB
  rw [List.all_map]
  by_cases h1 : (ns.length : Int) = w.1
  · by_cases h2 : dcount ns = ns.length
    · rw [if_pos ⟨h1, h2⟩, decide_eq_true h1, decide_eq_true h2, decide_eq_true (show (ns.length : Int) ≤ w.1 by omega)]
      simp only [Bool.true_and, Bool.and_true]
      rfl
    · rw [if_neg (fun z => h2 z.2), decide_eq_false h2]
      simp
  · rw [if_neg (fun z => h1 z.1), decide_eq_false h1]
    simp
theorem fitsB_len {w : Wb} {t : Int} {es : List PyData} (h : (es.length : Int) ≠ w.1) : fitsB w t (.tuple es) = false := by
  cases e : fitsB w t (.tuple es) with
  | false => rfl
  | true =>
    obtain ⟨ns, e1, f⟩ := fitsB_iff.mp e
    have := fits_of f
    cases e1
    unfold fitsN at f
    rw [Bool.and_eq_true, decide_eq_true_eq] at f
    rw [List.length_map] at h
    exact absurd f.2 h
theorem fitsB_none {w : Wb} {t : Int} {es : List PyData} (h : asIs es = none) : fitsB w t (.tuple es) = false := by
  cases e : fitsB w t (.tuple es) with
  | false => rfl
  | true =>
    obtain ⟨ns, e1, f⟩ := fitsB_iff.mp e
    cases e1
    rw [asIs_map] at h
    cases h
end U
/-! EnumT: for i, x in enumerate(tuple). -/
namespace DL
open PySem PySem.Spec PyProof.Rows L2
open Evl (Ex)
theorem meets_enum1 {v : Value} {o : Obj} {H : Heap → Prop} (B : Begins v o H) :
    Meets (Builtin.«enumerate.__new__» ⟨[.type "enumerate", v], []⟩) (fun _ R s => H s.heap ∧
      R (.ok (.ret (.ref (s.heap.push o).objs.size))) { s with heap := (s.heap.push o).push { cls := .type "enumerate", data := .fields #[.none, .bool false, .ref s.heap.objs.size, rawInt 0, .none, .none] } }) :=
  .of_wp fun prog w A R s h => by
    obtain ⟨hp, g, d, tk, os⟩ := s
    obtain ⟨h1, h⟩ := h
    have hsub := sub_enumerate
    have q1 : ∀ {A' : Around} {E : Value → Shared → Prop} {Q : Value → Shared → Prop}, Q (.ref hp.objs.size) ⟨hp.push o, g, d, tk, os⟩ → wpAny (model prog w) A' (pyIter v) Q E ⟨hp, g, d, tk, os⟩ := fun q => B.iter prog w _ _ ⟨hp, g, d, tk, os⟩ _ h1 q
    wp_walk using q1
    refine wpAny_stack_any fun st => wpAny_pure ?_
    split
    · rename_i c _ _ _ _ _
      cases (c == Value.type "enumerate") <;> (wp_walk using q1; exact ⟨_, rfl, h⟩)
    · wp_walk using q1
      exact ⟨_, rfl, h⟩
theorem call_enumT {prog : Program} {w : World} {A : Around} {E : Value → Shared → Prop} {s : Shared} {l : Addr} {items : Array Value} {Q : Value → Shared → Prop} (hL : s.heap.IsTuple l items)
    (h : ∀ h', IsEnum h' (s.heap.objs.size + 1) s.heap.objs.size 0 .none → h'.IsTupleIter s.heap.objs.size l 0 → (∀ b o, s.heap.get? b = some o → h'.get? b = some o) → Q (.ref (s.heap.objs.size + 1)) { s with heap := h' }) :
    wpAny (model prog w) A (call (.type "enumerate") [.ref l]) Q E s := by
  refine callType_new F.called_enumerate (by decide) (F.typeCall_enumerate_1 _) (F.newCall_enumerate_1 _) (fun obj => F.args_object_init_2 obj _) F.entry_enumerate_new (meets_enum1 (begins_tuple l items)) ⟨hL, ?_⟩
  have hz : (s.heap.push { cls := .type "tuple_iterator", data := .fields #[.ref l, .int 0 0] }).objs.size = s.heap.objs.size + 1 := Heap.size_push ..
  show _ ∧ _
  rw [hz]
  have he : IsEnum ((s.heap.push { cls := .type "tuple_iterator", data := .fields #[.ref l, .int 0 0] }).push { cls := .type "enumerate", data := .fields #[.none, .bool false, .ref s.heap.objs.size, rawInt 0, .none, .none] }) (s.heap.objs.size + 1) s.heap.objs.size 0 .none := by
    have := Heap.get?_push_size (s.heap.push { cls := .type "tuple_iterator", data := .fields #[.ref l, .int 0 0] }) (o := { cls := .type "enumerate", data := .fields #[.none, .bool false, .ref s.heap.objs.size, rawInt 0, .none, .none] }) rfl
    rw [hz] at this
    exact this
  exact ⟨⟨_, he, rfl⟩, h _ he ⟨_, Heap.get?_push_of_some _ (Heap.get?_push_size _ rfl), rfl, rfl⟩ fun b o x => Heap.get?_push_of_some _ (Heap.get?_push_of_some _ x)⟩
/-- the tuple at a: each item in a new pair -/
def IteT (K : PySem.W.Frag) (a : Addr) : It :=
  ⟨fun i H => ∃ (xs : List V) (x : V), SqT K H a xs ∧ xs[i]? = some x, fun i H v H' => ∃ T x, v = .ref T ∧ H T = none ∧ H' = upd H T (.tup [.int (i : Nat), x]) ∧ ∀ xs, SqT K H a xs → xs[i]? = some x, fun i H => ∃ xs : List V, SqT K H a xs ∧ xs.length ≤ i⟩
theorem turn_enumT {P : Program} {w : World} {K : PySem.W.Frag} {elts : List Expr} {kk : Nat} {tpos : Pos} (a e it : Addr) :
    Turn P w K (.Tuple elts kk tpos) (IteT K a) [e, it] e (fun i h => (∃ old, IsEnum h e it ((i : Nat) : Int) old) ∧ h.IsTupleIter it a i ∧ e ≠ it) where
  mem := by simp
  obj := fun i h st b hb => by
    obtain ⟨⟨old, he⟩, ⟨o, ho, hc, hd⟩, _⟩ := st
    have e' : b = e ∨ b = it := by simpa using hb
    rcases e' with z | z
    · rw [z]; exact ⟨_, he, fun v q => nomatch q⟩
    · rw [z]; exact ⟨o, ho, fun v q => by rw [hd] at q; cases q⟩
  keep := fun i h h' st k => let ⟨⟨old, he⟩, hi, hne⟩ := st; ⟨⟨old, k e (by simp) _ he⟩, hi.at fun o q => k it (by simp) o q, hne⟩
  item := by
    intro X hP hw hK hc i pins s σ H E I hf st hg
    subst hP hw hK
    obtain ⟨⟨old, he⟩, hit, hne⟩ := st
    obtain ⟨xs, x, hq, hx⟩ := hg
    obtain ⟨its, rv, p, hz⟩ := I.tuple hq
    obtain ⟨u, hu, ru⟩ := rv.get hx
    have hel : e < s.heap.objs.size := Heap.lt_size he
    have hil : it < s.heap.objs.size := by obtain ⟨_, q, _⟩ := hit; exact Heap.lt_size q
    have hTu : s.heap.IsTuple a its.toArray := by obtain ⟨o, ho, hc, n, hd⟩ := p; exact ⟨o, ho, hc, n, hd⟩
    have nea : e ≠ a := fun z => by
      obtain ⟨o, ho, hc, _⟩ := hTu
      rw [← z, show s.heap.get? e = some _ from he] at ho
      cases ho
      injection hc with z2
      exact absurd z2 (by decide)
    have nia : a ≠ it := fun z => by
      obtain ⟨o, ho, hc, _⟩ := hTu
      obtain ⟨o', ho', hc', _⟩ := hit
      rw [z, ho'] at ho
      cases ho
      rw [hc'] at hc
      injection hc with z2
      exact absurd z2 (by decide)
    refine wpAny_pyNext_enum_itemD (Draws.tuple (A := X.A.in1) (I.ok.hd hc) it a nia its.toArray) he ⟨hit, hTu⟩ (by have := (List.getElem?_eq_some_iff.mp hu).1; simpa using this) hne (by simp [hne, nea]) fun x' h' tk hP ho hst' hT hsz hk => ?_
    have ex : x' = u := by
      have hP : its.toArray[i]? = some x' := hP
      rw [List.getElem?_toArray, hu] at hP
      exact (Option.some.inj hP).symm
    subst ex
    refine ⟨_, rfl, wpAny_letOwnedTupleGo_enum (s := { s with heap := h', toks := tk + 1 }) ho fun h'' he' sb => ?_⟩
    have hT2 : h''.get? s.heap.objs.size = some { cls := .type "tuple", data := .seq #[.int i tk, x'] } := (sb.2 _ (Nat.ne_of_gt hel)).trans hT
    have new : ObjOk X.prog X.w (upd H s.heap.objs.size (.tup [.int (i : Nat), x])) h'' s.heap.objs.size (.tup [.int (i : Nat), x]) :=
      ⟨by show 2 ≤ sizeLine; decide, [.int i tk, x'], .cons ⟨_, rfl⟩ (.cons ru .nil), ⟨_, hT2, rfl, _, rfl⟩⟩
    have I1 : L2.Inv X pins σ (upd H s.heap.objs.size (.tup [.int (i : Nat), x])) { s with heap := h'', toks := tk + 1 } :=
      I.turnedNew (ch := [e, it]) (fun b ob hb q => (sb.2 b (fun z => hb (by simp [z]))).trans (hk b ob (fun z => hb (by simp [z])) (fun z => hb (by simp [z])) q)) hf (Nat.le_refl _) new
    refine ⟨.ref s.heap.objs.size, _, I1, rfl, ⟨_, x, rfl, I.hok.fresh (Nat.le_refl _), rfl, fun ys hy => by rw [I.tuple_inj hy hq]; exact hx⟩, ⟨⟨x', ?_⟩, hst'.1.at fun o q => (sb.2 it (Ne.symm hne)).trans q, hne⟩, fun b hb => ?_⟩
    · have e1 : ((i + 1 : Nat) : Int) = (i : Int) + 1 := by omega
      rw [e1]; exact he'
    · have hb' : b < s.heap.objs.size := by
        have e' : b = e ∨ b = it := by simpa using hb
        rcases e' with z | z
        · rw [z]; exact hel
        · rw [z]; exact hil
      rw [upd_ne (Nat.ne_of_lt hb')]
      exact (hf b hb).1
  done := by
    intro X hP hw hK hc i pins s σ H E I hf st hg
    subst hP hw hK
    obtain ⟨⟨old, he⟩, hit, hne⟩ := st
    obtain ⟨xs, hq, hx⟩ := hg
    obtain ⟨its, rv, p, hz⟩ := I.tuple hq
    obtain ⟨f0, f1, f2, f3, f4, f5⟩ := hf it (by simp)
    have hl := rv.length
    have hTu : s.heap.IsTuple a its.toArray := by obtain ⟨o, ho, hc, n, hd⟩ := p; exact ⟨o, ho, hc, n, hd⟩
    have hn : its.toArray[i]? = none := by simp; omega
    have D : Draws X.prog X.w X.A.in1 it [it, a] i (fun _ _ => True) (fun j h => j = i ∧ h.IsTupleIter it a i ∧ h.IsTuple a its.toArray) :=
      ⟨fun j h st => let ⟨o, ho, _⟩ := st.2.1; ⟨o, ho⟩, fun j h h' st hk => ⟨st.1, st.2.1.at fun o e => hk it (by simp) o e, st.2.2.at fun o e => hk a (by simp) o e⟩, fun j s Q E hi st _ => absurd st.1 (Nat.ne_of_lt hi), fun s Q E st hE => wpAny_nextOf_tuple_end (I.ok.hd hc) st.2.1 st.2.2 hn hE⟩
    exact wpAny_pyNext_enum_endD D he ⟨rfl, hit, hTu⟩ fun h' eb => ⟨rfl, I.turned (t' := s.toks) (fun b o hb q => eb b o hb q) f0 f1 f3 f4 f5⟩
  self := fun A i s Q E st h => let ⟨⟨_, he⟩, _⟩ := st; wpAny_pyIter_enum he h
def iEnumT (K : PySem.W.Frag) (ta : TA) : TI := fun σ H R => ta σ H fun vs H1 => ∃ a xs, vs = [.ref a] ∧ SqT K H1 a xs ∧ R (IteT K a) H1
theorem pi_enumT {X : Cx} {e : Expr} {ta : TA} {p pos tpos : Pos} {elts : List Expr} {kk : Nat} (hg : Gl X "enumerate") (hm : X.mg "enumerate" = none) (ha : PA X [e] ta) (hs : starEach [e] X.env = [(false, eval e X.env)] := by rfl) :
    PI X (.Tuple elts kk tpos) (.Call (.Name "enumerate" p) [e] [] pos) (iEnumT X.K ta) := by
  refine ⟨fun pins s σ H R I h => ?_⟩
  refine Call_ (ld_blt I hg hm boot_enumerate (PyProof.Rows.callWith_type1 (thn (ha.run pos pins s σ H _ I h) fun us s1 ⟨vs, H1, I1, r1, q1⟩ => ?_) hs rfl))
  obtain ⟨a, xs, ex, hq, q⟩ := q1
  subst ex
  have eu := Vals.ref1 r1
  subst eu
  obtain ⟨its, rv, p', hz⟩ := I1.tuple hq
  have hTu : s1.heap.IsTuple a its.toArray := by obtain ⟨o, ho, hc, n, hd⟩ := p'; exact ⟨o, ho, hc, n, hd⟩
  refine call_enumT hTu fun h' he hit hk => wpAny_pyIter_enum he ?_
  have I2 : L2.Inv X pins σ H1 { s1 with heap := h' } := I1.kept (t' := s1.toks) hk
  refine ⟨s1.heap.objs.size + 1, [s1.heap.objs.size + 1, s1.heap.objs.size], _, _, H1, rfl, I2, turn_enumT a (s1.heap.objs.size + 1) s1.heap.objs.size, ⟨⟨.none, he⟩, hit, Nat.succ_ne_self _⟩, fun b hb => ?_, q⟩
  have e' : b = s1.heap.objs.size + 1 ∨ b = s1.heap.objs.size := by simpa using hb
  have hle : s1.heap.objs.size ≤ b := by
    rcases e' with z | z
    · rw [z]; exact Nat.le_add_right _ _
    · rw [z]; exact Nat.le_refl _
  exact I1.fpOk hle (I1.hok.fresh hle)
theorem enumTK {X : Cx} {K : PySem.W.Frag} {e : Expr} {ta : TA} {p pos tpos : Pos} {elts : List Expr} {kk : Nat} (h : X.K = K) (hg : Gl X "enumerate") (hm : X.mg "enumerate" = none) (ha : PA X [e] ta) (hs : starEach [e] X.env = [(false, eval e X.env)] := by rfl) :
    PI X (.Tuple elts kk tpos) (.Call (.Name "enumerate" p) [e] [] pos) (iEnumT K ta) := by subst h; exact pi_enumT hg hm ha hs
end DL
namespace DL
open PySem L2
open Evl (Ex)
/-- the pairs that enumerate gives -/
def enumD (ds : List PyData) : List PyData := (List.range ds.length).map fun (i : Nat) => .tuple [.int (i : Nat), ds.getD i .none]
theorem enumD_len (ds : List PyData) : (enumD ds).length = ds.length := by unfold enumD; rw [List.length_map, List.length_range]
theorem enumD_get {ds : List PyData} {i : Nat} {d : PyData} (h : ds[i]? = some d) : (enumD ds)[i]? = some (.tuple [.int (i : Nat), d]) := by
  unfold enumD
  have hi := (List.getElem?_eq_some_iff.mp h).1
  rw [List.getElem?_map, List.getElem?_range hi]
  show some (PyData.tuple [PyData.int (i : Nat), ds.getD i PyData.none]) = some (PyData.tuple [PyData.int (i : Nat), d])
  rw [List.getD_eq_getElem?_getD, h]; rfl
theorem ss_forEnumT {T : TL} {X : XK} {K : PySem.W.Frag} {ta : TA} {g : TG} {t : TS} {ρ ρ1 : List Sl} {ds : List PyData} {o : Out} (h : EA T ta ρ [.tuple ds] ρ1) (R : ForR (TurnD T X g t) (enumD ds) ρ1 o) : SS T X (tFor (iEnumT K ta) g t) ρ o := fun F W D B H σ E k =>
  h F W B H σ _ E fun vs B1 H1 e1 E1 q1 => by
    cases q1 with
    | cons q1 qn =>
    cases qn
    obtain ⟨a, xs, f1, f2, q⟩ := q1.inv_tup
    subst f1
    have k1 := k.le e1
    have hlen := q.length
    refine ⟨a, xs, rfl, SqT.of (E1.bh _ _ f2), fun i m σ H => m = xs.length - i ∧ i ≤ xs.length ∧ ∃ B' ρi, Ex B1 B' ∧ Env T F W B' H σ ρi ∧ ForR (TurnD T X g t) ((enumD ds).drop i) ρi o, ⟨xs.length, by simp, Nat.zero_le _, B1, ρ1, Ex.refl _, E1, R⟩, ?_⟩
    rintro i m σ H ⟨rfl, hi, B', ρi, e, E', R'⟩
    have hs : SqT K H a xs := SqT.of (E'.bh _ _ (e _ _ f2))
    by_cases hlt : i < xs.length
    · refine .inr ⟨⟨xs, xs[i], hs, by simp [hlt]⟩, fun σ H => ∃ B' ρi, Ex B1 B' ∧ Env T F W B' H σ ρi ∧ ForR (TurnD T X g t) ((enumD ds).drop (i + 1)) ρi o, fun σ' H' p' => ⟨xs.length - (i + 1), by omega, rfl, hlt, p'⟩, fun x H' y => ?_⟩
      obtain ⟨Tn, x', rfl, hT, rfl, y⟩ := y
      have hx := y xs hs
      obtain ⟨d, hd, qd⟩ := q.getV hx
      have gr := Grow.new (o := .tup [.int (i : Nat), x']) E'.bh hT (fun ps z => by cases z)
      exact for_step k1 (enumD_get hd) (e.trans gr.bb) (E'.grow gr) (.tup upd_same (.cons (.int _) (.cons ((qd.mono e).mono gr.bb) .nil))) R'
    · have ei : i = xs.length := by omega
      subst ei
      exact .inl ⟨⟨xs, hs, Nat.le_refl _⟩, for_end k1 (by rw [enumD_len, hlen]; exact Nat.le_refl _) ⟨B', ρi, e, E', R'⟩⟩
end DL
/-! MirF: the finding of numberings, mirrored. -/
namespace U
open PySem L2 DL
def nearN (w : Wb) (p : Int) : List Int := (w.2.filter fun q => [q.1, q.2].contains p).map fun q => q.1 + q.2 - p
def twinN (w : Wb) (a b : Int) : Bool := decide (sortI ((nearN w a).filter fun x => !decide (x = b)) = sortI ((nearN w b).filter fun x => !decide (x = a)))
abbrev Pl := List (List Int × List Int)
def planAt (w : Wb) (p : Int) : List Int × List Int := ((nearN w p).filter fun o => decide (o < p), (ri 0 p.toNat).filter fun o => twinN w o p)
def planN (w : Wb) : Pl := (ri 0 w.1.toNat).map (planAt w)
abbrev eLL (x : List Int × List Int) : PyData := .tuple [eL x.1, eL x.2]
abbrev eTL (x : List Int × List Int) : PyData := .tuple [eT x.1, eL x.2]
abbrev ePl (pl : Pl) : PyData := .list (pl.map eLL)
def plAt (pl : Pl) (i : Nat) : List Int × List Int := pl.getD i ([], [])
def diffs (near b : List Int) (n : Int) : List Int := near.map fun p => iabs (at0 b p - n)
def usedN (pl : Pl) (b : List Int) : List Int := (List.range b.length).foldl (fun l i => l ++ diffs (plAt pl i).1 b (b.getD i 0)) []
def lowN (tw b : List Int) (fixed : Int) : Int := ((tw.filter fun t => decide (fixed ≤ t)).map (at0 b)).foldl max (-1)
def okNext (q : List Int × List Int) (b used : List Int) (n : Int) : Bool := !b.contains n && decide (dcount (used ++ diffs q.1 b n) = (used ++ diffs q.1 b n).length)
def nextN (pl : Pl) (top : Int) (b : List Int) (fixed : Int) (used : List Int) : List (List Int × List Int) :=
  ((ri (lowN (plAt pl b.length).2 b fixed + 1) (top + 1 - (lowN (plAt pl b.length).2 b fixed + 1)).toNat).filter (okNext (plAt pl b.length) b used)).map fun n => (b ++ [n], used ++ diffs (plAt pl b.length).1 b n)
def firstIn (pl : Pl) (top fixed : Int) : Nat → List Int → List Int → Option (List Int)
  | 0, b, _ => if b.length = pl.length then some b else none
  | d + 1, b, used => if b.length = pl.length then some b else (nextN pl top b fixed used).findSome? fun x => firstIn pl top fixed d x.1 x.2
def optD : Option (List Int) → PyData
  | none => .none
  | some b => eT b
def firstFrom (w : Wb) (top : Int) (b : List Int) : Option (List Int) := firstIn (planN w) top b.length (w.1.toNat - b.length) b (usedN (planN w) b)
/-- a plan's places stand ahead; short -/
def WfPl (pl : Pl) : Prop := ∀ i, i < pl.length → (∀ x ∈ (plAt pl i).1, 0 ≤ x ∧ x < (i : Int)) ∧ (∀ x ∈ (plAt pl i).2, 0 ≤ x ∧ x < (i : Int)) ∧ (plAt pl i).1.length ≤ 20 ∧ (plAt pl i).2.length ≤ 20
theorem plAt_ok {pl : Pl} {i : Nat} (h : i < pl.length) : atI (pl.map eLL) ((i : Nat) : Int) = some (eLL (plAt pl i)) := by
  refine L2.atI_nat ?_
  rw [List.getElem?_map, List.getElem?_eq_getElem h]
  unfold plAt
  rw [List.getD_eq_getElem?_getD, List.getElem?_eq_getElem h]; rfl
theorem rb_maxI {K : PySem.W.Frag} {ns : List Int} {m : Int} (h : m ∈ ns) (h2 : ∀ y ∈ ns, y ≤ m) : RB (rMax K) [eL ns] (.int m) := fun B H vs Q e bt q k => by
  cases q with
  | cons q1 q2 =>
    cases q2
    obtain ⟨p, xs, rfl, hb, q⟩ := q1.inv_lst
    have ex := q.ints
    refine ⟨p, ns, rfl, SqL.of (by rw [← ex]; exact e _ _ hb), List.length_pos_of_mem h, fun m' h1' h2' => ?_⟩
    have : m' = m := Int.le_antisymm (h2 m' h1') (h2' m h)
    rw [this]
    exact k _ B H (Grow.refl e) (.int _)
theorem fmax_mem : ∀ (xs : List Int) (a : Int), xs.foldl max a = a ∨ xs.foldl max a ∈ xs
  | [], _ => .inl rfl
  | x :: xs, a => by
    rcases fmax_mem xs (max a x) with h | h
    · rw [List.foldl_cons, h]
      rcases Int.le_total a x with z | z
      · rw [Int.max_eq_right z]; exact .inr List.mem_cons_self
      · rw [Int.max_eq_left z]; exact .inl rfl
    · exact .inr (List.mem_cons_of_mem _ h)
theorem fmax_ge : ∀ (xs : List Int) (a : Int), a ≤ xs.foldl max a ∧ ∀ y ∈ xs, y ≤ xs.foldl max a
  | [], a => ⟨Int.le_refl _, fun _ h => by cases h⟩
  | x :: xs, a => by
    obtain ⟨h1, h2⟩ := fmax_ge xs (max a x)
    rw [List.foldl_cons]
    refine ⟨by omega, fun y hy => ?_⟩
    rcases List.mem_cons.mp hy with rfl | hy
    · omega
    · exact h2 y hy
theorem rb_low {K : PySem.W.Frag} {ns : List Int} : RB (rMax K) [eL (-1 :: ns)] (.int (ns.foldl max (-1))) := by
  refine rb_maxI ?_ fun y hy => ?_
  · rcases fmax_mem ns (-1) with h | h
    · rw [h]; exact List.mem_cons_self
    · exact List.mem_cons_of_mem _ h
  · rcases List.mem_cons.mp hy with rfl | hy
    · exact (fmax_ge ns (-1)).1
    · exact (fmax_ge ns (-1)).2 y hy
/-- a def of no promise -/
theorem cal_void {P : Program} {w : World} {K : PySem.W.Frag} {mg : Str → Option Value} {base : Heap} {k : Nat} {x : Str} {st : Stmt} {ps : List Str} {R : List PyData → Res → Prop} (F : Fn K mg x st) (hbind : BindsAs x st ps) (h : ∀ ds r, ¬ R ds r) : Cal P w K mg base k x ps (spP R) := by
  obtain ⟨f, fd, Fu, hm⟩ := F.ex
  refine ⟨f, fd, ⟨fun vs H Q E ⟨_, _, _, _, _, _, z, _⟩ => absurd z (h _ _), fun A outer s H args us vs Q E hr e0 hb r ⟨_, _, _, _, _, _, z, _⟩ => absurd z (h _ _)⟩, hm, Fu.kp, Fu.binds hbind⟩
end U
/-! SeqI: a list or a tuple gone through by the same code. -/
namespace DL
open PySem PySem.Spec PyProof.Rows L2
open Evl (Ex)
def iSeq (K : PySem.W.Frag) (tl : TE) : TI := fun σ H R => tl σ H fun x H1 => ∃ a, x = .ref a ∧ (((∃ xs, SqT K H1 a xs) ∧ R (Itt K a) H1) ∨ ((∃ xs, SqL K H1 a xs) ∧ R (Itl K a) H1))
theorem piS {X : Cx} {K : PySem.W.Frag} {tg l : Expr} {tl : TE} (hK : X.K = K) (hl : PE X l tl) : PI X tg l (iSeq K tl) := by
  subst hK
  refine ⟨fun pins s σ H R I h => ?_⟩
  refine thn (hl.run pins s σ H _ I h) fun v s1 ⟨x, H1, I1, r1, q1⟩ => ?_
  obtain ⟨a, rfl, q1⟩ := q1
  obtain rfl : v = Value.ref a := r1
  rcases q1 with ⟨⟨xs, hq⟩, q⟩ | ⟨⟨xs, hq⟩, q⟩
  · obtain ⟨its, rv, p, hz⟩ := I1.tuple hq
    exact wpAny_pyIter_tuple (show s1.heap.IsTuple a its.toArray from p) (pi_one (tk := s1.toks) I1 _ (turn_tuple a _) ⟨_, Heap.get?_push_size _ rfl, rfl, rfl⟩ q)
  · obtain ⟨its, rv, p, hz⟩ := I1.list hq
    exact wpAny_pyIter_list p.isList (pi_one (tk := s1.toks) I1 _ (turn_list a _) ⟨_, Heap.get?_push_size _ rfl, rfl, rfl⟩ q)
section
variable {T : TL} {K : PySem.W.Frag} {g : TG} {tt : TT} {te tl : TE} {vs : List Nat} {ρ ρ1 : List Sl} {ds es : List PyData}
theorem el_lcST (h : EE T tl ρ (.tuple ds) ρ1) (R : LcR (LcT T g tt te vs) ds ρ1 es ρ1) (hl : es.length ≤ 100000) : EL T (tLc (iSeq K tl) g tt te vs) ρ es ρ1 := fun F W B H σ Q E k =>
  h F W B H σ _ E fun v B1 H1 e1 E1 q1 => by
    obtain ⟨a, xs, f1, f2, q⟩ := q1.inv_tup
    refine ⟨a, f1, .inl ⟨⟨xs, SqT.of (E1.bh _ _ f2)⟩, fun D hD => lc_tup (xs := xs) (LcI T g tt te vs F W B1 σ D ds es ρ1) (lc_start E1 hD R) (fun i H _ ⟨B', ρi, _, _, _, e, E, _⟩ => SqT.of (E.bh _ _ (e _ _ f2))) (fun i x H hx I => ?_) (fun H I => lc_end e1 (by rw [q.length]; exact Nat.le_refl _) k I)⟩⟩
    obtain ⟨d, hd, qd⟩ := q.getV hx
    exact lc_turn hd hl (fun B' e => qd.mono e) I
theorem el_lcSL (h : EE T tl ρ (.list ds) ρ1) (R : LcR (LcT T g tt te vs) ds ρ1 es ρ1) (hl : es.length ≤ 100000) : EL T (tLc (iSeq K tl) g tt te vs) ρ es ρ1 := fun F W B H σ Q E k =>
  h F W B H σ _ E fun v B1 H1 e1 E1 q1 => by
    obtain ⟨a, xs, f1, f2, q⟩ := q1.inv_lst
    refine ⟨a, f1, .inr ⟨⟨xs, SqL.of (E1.bh _ _ f2)⟩, fun D hD => lc_list (xs := xs) (LcI T g tt te vs F W B1 σ D ds es ρ1) (lc_start E1 hD R) (fun i H _ ⟨B', ρi, _, _, _, e, E, _⟩ => SqL.of (E.bh _ _ (e _ _ f2))) (fun i x H hx I => ?_) (fun H I => lc_end e1 (by rw [q.length]; exact Nat.le_refl _) k I)⟩⟩
    obtain ⟨d, hd, qd⟩ := q.getV hx
    exact lc_turn hd hl (fun B' e => qd.mono e) I
end
end DL
/-! SortT: sorted(tuple of ints). -/
namespace DL
open PySem PySem.Spec PyProof.Rows L2
open Evl (Ex)
section
variable {prog : Program} {w : World} {A : Around} {E : Value → Shared → Prop} {s : Shared}
theorem collectT {l : Addr} {vs : List Value} {Q : List Value → Shared → Prop} (hl : s.heap.IsTuple l vs.toArray)
    (h : Q vs { s with heap := (s.heap.push (seqObj "list" #[] 0)).update s.heap.objs.size (Obj.mapSeq (· ++ vs.toArray)) }) (hsz : vs.length ≤ sizeLine) : wpAny (model prog w) A (collect (.ref l)) Q E s := by
  obtain ⟨o, ho, hc, n, hd⟩ := id hl
  unfold collect
  refine wpAny_bind (wpAny_runValue (codeAny_builtin entry_proto_collect' ?_))
  show wpAny _ _ (do again (.builtin "list.__iadd__" ⟨[← newList [], .ref l], []⟩)) _ _ s
  refine wpAny_bind (wpAny_newList (wpAny_pure ⟨Code.quiet_builtin _ (by decide +kernel), codeAny_builtin entry_list_iadd' ?_⟩))
  show wpAny _ _ (Builtin.List.listExtendWith (.ref s.heap.objs.size) (.ref l) (.ref s.heap.objs.size)) _ _ { s with heap := s.heap.push (seqObj "list" #[] 0) }
  unfold Builtin.List.listExtendWith
  have ho' : (s.heap.push (seqObj "list" #[] 0)).get? l = some o := Heap.get?_push_of_some _ ho
  refine wpAny_bind (wpAny_typeOf (T := "tuple") ⟨o, ho', hc⟩ ?_)
  rw [if_pos (by rw [show (Value.type "tuple" == Value.type "tuple") = true from rfl]; simp)]
  refine wpAny_bind (listItems_at ho' hd ?_)
  refine wpAny_bind (listItems_at (xs := #[]) (n := 0) (Heap.get?_push_size _ rfl) rfl ?_)
  rw [if_neg (by simp)]
  refine wpAny_bind (listUpdate_at (xs := #[]) (n := 0) (Heap.get?_push_size _ rfl) rfl ?_ (Nat.zero_le _) (by show (#[] ++ vs.toArray).size ≤ sizeLine + 1; simp only [Array.size_append, List.size_toArray, List.length_nil]; omega))
  refine wpAny_pure ?_
  show wpAny (model prog w) A (do
      let o ← load s.heap.objs.size
      match o.data with
      | .seq xs _ => pure xs.toList
      | _ => unsupported "internal:collect") Q E { s with heap := (s.heap.push (seqObj "list" #[] 0)).update s.heap.objs.size (Obj.mapSeq (· ++ vs.toArray)) }
  refine wpAny_bind (wpAny_load (get?_update_seq (Heap.get?_push_size _ rfl) _) ?_)
  show wpAny _ _ (pure ((#[] : Array Value) ++ vs.toArray).toList) Q E _
  rw [show ((#[] : Array Value) ++ vs.toArray).toList = vs by simp]
  exact wpAny_pure h
theorem sorted_intsT {l : Addr} {vs : List Value} {ns : List Int} {Q : Value → Shared → Prop} (hl : s.heap.IsTuple l vs.toArray) (hz : vs.length ≤ sizeLine) (hI : IntsAre vs ns)
    (h : ∀ out : List Value, SrtO.Srtd SrtO.ltIv out → SrtO.Stb SrtO.ltIv out vs → Q (.ref (s.heap.objs.size + 1)) { s with heap := sortedAll s.heap vs out.toArray }) : wpAny (model prog w) A (call (.builtin "sorted") [.ref l]) Q E s := by
  refine Calls.call_function_entry kind_sorted plain_sorted entry_sorted (args_sorted1 _) ?_
  unfold Builtin.«sorted»
  refine wpAny_bind (m := checkCount "sorted" 1 1 _) (wpAny_pure ?_)
  refine wpAny_bind (collectT hl ?_ hz)
  refine wpAny_bind (wpAny_newList ?_ hz)
  have hsz : ((s.heap.push (seqObj "list" #[] 0)).update s.heap.objs.size (Obj.mapSeq (· ++ vs.toArray))).objs.size = s.heap.objs.size + 1 := by rw [Heap.size_update, size_push']
  have hoL : (((s.heap.push (seqObj "list" #[] 0)).update s.heap.objs.size (Obj.mapSeq (· ++ vs.toArray))).push (seqObj "list" vs.toArray 0)).get? (s.heap.objs.size + 1) = some (seqObj "list" vs.toArray 0) := by
    rw [← hsz]; exact Heap.get?_push_size _ rfl
  show wpAny _ _ _ _ _ { s with heap := ((s.heap.push (seqObj "list" #[] 0)).update s.heap.objs.size (Obj.mapSeq (· ++ vs.toArray))).push (seqObj "list" vs.toArray 0) }
  rw [hsz]
  refine wpAny_bind (wpAny_holding (wpAny_call_entry slot_list_sort ⟨_, hoL, rfl⟩ entry_list_sort (SrtO.list_sort_ord SrtO.swo_int hoL hz (fun h2 => SrtO.ints_sortable hI h2) fun out hs hb => ⟨_, rfl, ?_⟩) (args_list_sort _)))
  exact wpAny_pure ⟨_, rfl, h out hs hb⟩
end
def rSortedIT (K : PySem.W.Frag) : List V → Hp → VK → Prop := fun vs H Q => ∃ (a : Addr) (ns : List Int), vs = [V.ref a] ∧ SqT K H a (ns.map V.int) ∧
  ∀ (ns' : List Int) (p : Addr), ns'.Perm ns → ns'.Pairwise (· ≤ ·) → H p = none → Q (.ref p) (upd H p (.lst (ns'.map V.int)))
theorem cr_sortedIT {X : Cx} : CallR X (.builtin "sorted") (rSortedIT X.K) := by
  intro pins s σ H vs us Q I r h
  obtain ⟨a, ns, rfl, hs, q⟩ := h
  obtain ⟨its, rv, hl, hz⟩ := I.tuple hs
  rw [Vals.ref1 r]
  have hi := rv.ints
  have hTu : s.heap.IsTuple a its.toArray := by obtain ⟨o, ho, hc, n, hd⟩ := hl; exact ⟨o, ho, hc, n, hd⟩
  refine sorted_intsT hTu (by rw [← rv.length]; exact hz) hi fun out h1 h2 => ?_
  obtain ⟨k1, k2, k3⟩ := SrtO.ints_out hi h1 h2
  obtain ⟨ep, he'⟩ := PyProof.Rows.sortedAll_at s.heap its out.toArray
  have hlen : ((out.map SrtO.iv).map V.int).length ≤ sizeLine := by
    rw [List.length_map, k2.length_eq]
    rw [List.length_map] at hz
    exact hz
  exact ⟨.ref _, upd H (s.heap.objs.size + 1) (.lst ((out.map SrtO.iv).map V.int)), I.laid (t' := s.toks) (fun _ _ => PyProof.Rows.sortedAll_old) (Nat.le_succ _) ⟨hlen, out, ep, vals_of_ints k1, he'⟩, rfl, q _ _ k2 k3 (I.hok.fresh (Nat.le_succ _))⟩
theorem srtIT {X : Cx} {K : PySem.W.Frag} (h : X.K = K) : CallR X (.builtin "sorted") (rSortedIT K) := by subst h; exact cr_sortedIT
theorem rbl_sortedT {K : PySem.W.Frag} {ns : List Int} : RBL (rSortedIT K) [eT ns] ((sortI ns).map PyData.int) := fun B H vs Q e q k => by
  cases q with
  | cons q1 q2 =>
    cases q2
    obtain ⟨p, xs, rfl, hb, q⟩ := q1.inv_tup
    have ex := q.ints
    refine ⟨p, ns, rfl, SqT.of (by rw [← ex]; exact e _ _ hb), fun ns' p' h1 h2 hp => ?_⟩
    have := sortI_is h1 h2
    subst this
    exact k p' _ _ hp (Ex.new hp) upd_same (DtAll.of_ints _)
end DL
namespace DL
open PySem L2
open Evl (Ex)
theorem NotOwn.set {σ : Sigma} {ρ : List Sl} {p : Addr} {i : Nat} {v : V} {d : PyData} (h : NotOwn σ ρ p) : NotOwn (σ.set i (some v)) (ρ.set i (.dat d)) p := fun a qb es ha => by
  by_cases hi : i = a
  · subst hi
    by_cases hl : i < ρ.length
    · rw [List.getElem?_set_self hl] at ha; cases ha
    · rw [List.getElem?_eq_none (by simpa using hl)] at ha; cases ha
  · rw [List.getElem?_set_ne hi] at ha ⊢
    exact h a qb es ha
/-- a, b, c, d = (e1, [..], e3, e4): the list is the name's own -/
theorem ss_asg4 {T : TL} {X : XK} {K : PySem.W.Frag} {ρ : List Sl} {t1 t2 t3 t4 : TE} {d1 d3 d4 : PyData} {es : List PyData} {i1 i2 i3 i4 : Nat} (h1 : EE T t1 ρ d1 ρ) (h2 : EL T t2 ρ es ρ) (h3 : EE T t3 ρ d3 ρ) (h4 : EE T t4 ρ d4 ρ) :
    SS T X (tAsg (tTup (tCons t1 (tCons t2 (tCons t3 (tCons t4 tNil))))) (gTup K 4 (gCons (gName i1) (gCons (gName i2) (gCons (gName i3) (gCons (gName i4) gNil)))))) ρ (.nx ((((ρ.set i1 (.dat d1)).set i2 (.own none es)).set i3 (.dat d3)).set i4 (.dat d4))) := fun F W D B H σ E k =>
  h1 F W B H σ _ E fun v1 B1 H1 e1 E1 q1 => h2 F W B1 H1 σ _ E1 fun p xs B2 H2 e2 E2 a1 a2 a3 a4 a5 =>
    h3 _ _ B2 H2 σ _ (E2.hide a1 a3 a5) fun v3 B3 H3 e3 E3 q3 => h4 _ _ B3 H3 σ _ E3 fun v4 B4 H4 e4 E4 q4 => by
      obtain ⟨E5, b1, b2, b3⟩ := Env.unhide a2 E4 E.wf E.ft
      refine ⟨by show 4 ≤ sizeLine; rw [sizeLine_eq]; omega, fun r hr => ?_⟩
      have g := Grow.junk (o := .tup [v1, .ref p, v3, v4]) E5.bh hr
      have E6 := E5.grow g
      have hpr : p ≠ r := fun z => by rw [z, hr] at b2; cases b2
      refine ⟨r, _, rfl, SqT.of upd_same, rfl, ?_⟩
      have E7 := E6.set (i := i1) (q1.mono ((e2.trans e3).trans e4))
      have E8 := E7.setOwn (i := i2) b1 a2 (by rw [upd_ne hpr]; exact b2) (a4.mono (e3.trans e4)) b3.set
      have E9 := (E8.set (i := i3) (q3.mono e4)).set (i := i4) q4
      exact ⟨_, _, rfl, _, _, rfl, _, _, rfl, _, _, rfl, rfl, k _ B4 _ (((e1.trans e2).trans e3).trans e4) E9⟩
end DL
/-! MirA: all numberings, level by level, as the laws make them. -/
namespace U
open PySem L2 DL
def linesTo (w : Wb) (p : Int) : List (Int × Int) := w.2.filter fun q => decide (q.2 ≤ p)
def okExt (w : Wb) (p : Int) (s : List Int) (n : Int) : Bool := !s.contains n && differN (w.1, linesTo w p) (s ++ [n])
def extOf (w : Wb) (top p : Int) (s : List Int) : List (List Int) := ((ri 0 (top + 1).toNat).filter (okExt w p s)).map fun n => s ++ [n]
def allStep (w : Wb) (top : Int) (f : List (List Int)) (p : Int) : List (List Int) := (f.map (extOf w top p)).flatten
def allN (w : Wb) (top : Int) : List (List Int) := (ri 0 w.1.toNat).foldl (allStep w top) [[]]
theorem ext_len (w : Wb) {top : Int} (ht : 0 ≤ top) (p : Int) (s : List Int) : (extOf w top p s).length ≤ (top + 1).toNat := by
  unfold extOf
  rw [List.length_map]
  have := List.length_filter_le (okExt w p s) (ri 0 (top + 1).toNat)
  rw [ri_len] at this
  exact this
theorem flat_len {α β : Type} (g : α → List β) (k : Nat) (h : ∀ a, (g a).length ≤ k) : ∀ l : List α, ((l.map g).flatten).length ≤ l.length * k
  | [] => by simp
  | a :: l => by
    have h1 := h a
    have h2 := flat_len g k h l
    rw [List.map_cons, List.flatten_cons, List.length_append, List.length_cons, Nat.add_mul, Nat.one_mul]
    omega
theorem step_len (w : Wb) {top : Int} (ht : 0 ≤ top) (f : List (List Int)) (p : Int) : (allStep w top f p).length ≤ f.length * (top + 1).toNat := flat_len _ _ (ext_len w ht p) f
theorem fold_len (w : Wb) {top : Int} (ht : 0 ≤ top) : ∀ (ps : List Int) (f : List (List Int)), (ps.foldl (allStep w top) f).length ≤ f.length * (top + 1).toNat ^ ps.length
  | [], f => by simp
  | p :: ps, f => by
    have h1 := step_len w ht f p
    have h2 := fold_len w ht ps (allStep w top f p)
    rw [List.foldl_cons, List.length_cons, Nat.pow_succ, Nat.mul_comm ((top + 1).toNat ^ ps.length), ← Nat.mul_assoc]
    exact Nat.le_trans h2 (Nat.mul_le_mul_right _ h1)
theorem mem_ext {w : Wb} {top p : Int} {s t : List Int} (h : t ∈ extOf w top p s) : ∃ n, t = s ++ [n] ∧ 0 ≤ n ∧ n ≤ top ∧ okExt w p s n = true := by
  unfold extOf at h
  obtain ⟨n, hn, rfl⟩ := List.mem_map.mp h
  obtain ⟨h1, h2⟩ := List.mem_filter.mp hn
  have := mem_ri.mp h1
  exact ⟨n, rfl, by omega, by omega, h2⟩
theorem step_mem {w : Wb} {top p : Int} {f : List (List Int)} {t : List Int} (h : t ∈ allStep w top f p) : ∃ s ∈ f, t ∈ extOf w top p s := by
  unfold allStep at h
  obtain ⟨l, hl, ht⟩ := List.mem_flatten.mp h
  obtain ⟨s, hs, rfl⟩ := List.mem_map.mp hl
  exact ⟨s, hs, ht⟩
theorem fold_each (w : Wb) (top : Int) : ∀ (ps : List Int) (f : List (List Int)) (k : Nat), (∀ s ∈ f, s.length = k) → ∀ s ∈ ps.foldl (allStep w top) f, s.length = k + ps.length
  | [], f, k, h, s, hs => by simpa using h s hs
  | p :: ps, f, k, h, s, hs => by
    rw [List.foldl_cons] at hs
    have := fold_each w top ps (allStep w top f p) (k + 1) (fun t ht => by
      obtain ⟨s, hs, ht⟩ := step_mem ht
      obtain ⟨n, rfl, _⟩ := mem_ext ht
      rw [List.length_append, h s hs]; rfl) s hs
    rw [this, List.length_cons]; omega
end U
/-! Th1: the plain law of numberings: order, membership, renaming, twins. -/
namespace U
open PySem L2 DL
/-! ### the order -/
abbrev Lx (a b : List Int) : Prop := HT.lexLt a b = true
theorem lx_irrefl : ∀ a : List Int, HT.lexLt a a = false
  | [] => rfl
  | x :: a => by rw [HT.lexLt_cons, if_pos rfl]; exact lx_irrefl a
theorem lx_cons {x y : Int} {a b : List Int} : Lx (x :: a) (y :: b) ↔ x < y ∨ (x = y ∧ Lx a b) := by
  unfold Lx
  rw [HT.lexLt_cons]
  by_cases h : x = y
  · rw [if_pos h]; constructor
    · exact fun z => .inr ⟨h, z⟩
    · rintro (z | ⟨_, z⟩)
      · omega
      · exact z
  · rw [if_neg h]; constructor
    · exact fun z => .inl (of_decide_eq_true z)
    · rintro (z | ⟨z, _⟩)
      · exact decide_eq_true z
      · exact absurd z h
theorem lx_trans : ∀ {a b c : List Int}, Lx a b → Lx b c → Lx a c
  | [], [], _, h, _ => by cases h
  | [], _ :: _, [], _, h => by cases h
  | [], _ :: _, _ :: _, _, _ => rfl
  | _ :: _, [], _, h, _ => by cases h
  | _ :: _, _ :: _, [], _, h => by cases h
  | x :: a, y :: b, z :: c, h1, h2 => by
    rw [lx_cons] at h1 h2 ⊢
    rcases h1 with h1 | ⟨h1, h1'⟩ <;> rcases h2 with h2 | ⟨h2, h2'⟩
    · exact .inl (by omega)
    · exact .inl (by omega)
    · exact .inl (by omega)
    · exact .inr ⟨by omega, lx_trans h1' h2'⟩
theorem lx_total : ∀ {a b : List Int}, a ≠ b → Lx a b ∨ Lx b a
  | [], [], h => absurd rfl h
  | [], _ :: _, _ => .inl rfl
  | _ :: _, [], _ => .inr rfl
  | x :: a, y :: b, h => by
    rw [lx_cons, lx_cons]
    rcases Int.lt_trichotomy x y with z | z | z
    · exact .inl (.inl z)
    · subst z
      rcases lx_total (a := a) (b := b) (fun e => h (by rw [e])) with q | q
      · exact .inl (.inr ⟨rfl, q⟩)
      · exact .inr (.inr ⟨rfl, q⟩)
    · exact .inr (.inl z)
theorem lx_not {a b : List Int} (h : Lx a b) : HT.lexLt b a = false := by
  cases e : HT.lexLt b a with
  | false => rfl
  | true =>
    have := lx_trans h e
    rw [Lx, lx_irrefl] at this
    cases this
theorem lx_app (a : List Int) {b c : List Int} (h : Lx b c) : Lx (a ++ b) (a ++ c) := by
  induction a with
  | nil => exact h
  | cons x a ih => exact lx_cons.mpr (.inr ⟨rfl, ih⟩)
theorem lx_lt (a : List Int) {x y : Int} (b c : List Int) (h : x < y) : Lx (a ++ x :: b) (a ++ y :: c) := lx_app a (lx_cons.mpr (.inl h))
theorem lx_same : ∀ {a b : List Int} (c d : List Int), a.length = b.length → Lx a b → Lx (a ++ c) (b ++ d)
  | [], [], _, _, _, h => by cases h
  | [], _ :: _, _, _, h, _ => by cases h
  | _ :: _, [], _, _, h, _ => by cases h
  | x :: a, y :: b, c, d, hl, h => by
    rw [List.cons_append, List.cons_append, lx_cons]
    rcases lx_cons.mp h with h | ⟨h, h'⟩
    · exact .inl h
    · exact .inr ⟨h, lx_same c d (by simpa using hl) h'⟩
/-- the first place at which they differ -/
theorem lx_first : ∀ {a b : List Int} (i : Nat), a.length = b.length → i < a.length → (∀ j, j < i → a.getD j 0 = b.getD j 0) → a.getD i 0 < b.getD i 0 → Lx a b
  | [], _, _, _, h, _, _ => by simp at h
  | _ :: _, [], _, h, _, _, _ => by simp at h
  | x :: a, y :: b, 0, _, _, _, h => lx_cons.mpr (.inl (by simpa using h))
  | x :: a, y :: b, i + 1, hl, hi, hj, h => by
    refine lx_cons.mpr (.inr ⟨by simpa using hj 0 (by omega), lx_first i (by simpa using hl) (by simpa using hi) (fun j hji => ?_) (by simpa using h)⟩)
    simpa using hj (j + 1) (by omega)
theorem head_least {l : List (List Int)} {c d : List Int} (s : l.Pairwise Lx) (h : l.head? = some c) (hd : d ∈ l) : d = c ∨ Lx c d := by
  cases l with
  | nil => cases h
  | cons x l =>
    cases h
    rcases List.mem_cons.mp hd with z | z
    · exact .inl z
    · exact .inr ((List.pairwise_cons.mp s).1 d z)
theorem head_same {l1 l2 : List (List Int)} (s1 : l1.Pairwise Lx) (s2 : l2.Pairwise Lx) (sub : ∀ c ∈ l1, c ∈ l2) (h : ∀ c, l2.head? = some c → c ∈ l1) : l1.head? = l2.head? := by
  cases e : l2.head? with
  | none =>
    have : l2 = [] := List.head?_eq_none_iff.mp e
    subst this
    cases l1 with
    | nil => rfl
    | cons x _ => exact absurd (sub x List.mem_cons_self) (by simp)
  | some c =>
    have hc := h c e
    cases e1 : l1.head? with
    | none =>
      have : l1 = [] := List.head?_eq_none_iff.mp e1
      subst this
      simp at hc
    | some d =>
      rcases head_least s1 e1 hc with z | z
      · rw [z]
      · have hd : d ∈ l1 := List.mem_of_head? e1
        rcases head_least s2 e (sub d hd) with y | y
        · rw [y]
        · rw [Lx, lx_not z] at y; cases y
theorem lx_nodup {l : List (List Int)} (s : l.Pairwise Lx) : l.Nodup := s.imp fun {a b} h e => by subst e; rw [Lx, lx_irrefl] at h; cases h
/-! ### all numberings of the law -/
theorem ri_succ (lo : Int) (n : Nat) : ri lo (n + 1) = ri lo n ++ [lo + n] := by
  unfold ri
  rw [List.range_succ, List.map_append]; rfl
theorem ri_sorted (lo : Int) (n : Nat) : (ri lo n).Pairwise (· < ·) := by
  unfold ri
  rw [List.pairwise_map]
  exact List.pairwise_lt_range.imp fun h => by omega
theorem ext_sorted (w : Wb) (top p : Int) (s : List Int) : (extOf w top p s).Pairwise Lx := by
  unfold extOf
  rw [List.pairwise_map]
  exact ((ri_sorted _ _).filter _).imp fun h => lx_lt s [] [] h
theorem step_sorted {w : Wb} {top p : Int} {f : List (List Int)} {k : Nat} (h : f.Pairwise Lx) (hk : ∀ s ∈ f, s.length = k) : (allStep w top f p).Pairwise Lx := by
  unfold allStep
  rw [List.pairwise_flatten]
  refine ⟨fun l hl => ?_, ?_⟩
  · obtain ⟨s, _, rfl⟩ := List.mem_map.mp hl
    exact ext_sorted w top p s
  · rw [List.pairwise_map]
    refine List.Pairwise.imp_of_mem ?_ h
    intro a b ha hb hab x hx y hy
    obtain ⟨n, rfl, _⟩ := mem_ext hx
    obtain ⟨m, rfl, _⟩ := mem_ext hy
    exact lx_same _ _ ((hk a ha).trans (hk b hb).symm) hab
def lev (w : Wb) (top : Int) (k : Nat) : List (List Int) := (ri 0 k).foldl (allStep w top) [[]]
theorem lev_succ (w : Wb) (top : Int) (k : Nat) : lev w top (k + 1) = allStep w top (lev w top k) k := by
  unfold lev
  rw [ri_succ, List.foldl_append, Int.zero_add]; rfl
theorem lev_len (w : Wb) (top : Int) (k : Nat) : ∀ s ∈ lev w top k, s.length = k := fun s hs => by
  have := fold_each w top (ri 0 k) [[]] 0 (fun s hs => by simp at hs; subst hs; rfl) s hs
  rw [this, ri_len]; omega
theorem lev_sorted (w : Wb) (top : Int) : ∀ k, (lev w top k).Pairwise Lx
  | 0 => by unfold lev; exact List.pairwise_singleton _ _
  | k + 1 => by rw [lev_succ]; exact step_sorted (lev_sorted w top k) (lev_len w top k)
theorem all_sorted (w : Wb) (top : Int) : (allN w top).Pairwise Lx := lev_sorted w top w.1.toNat
theorem at0_app {a b : List Int} {i : Int} (h0 : 0 ≤ i) (h : i < a.length) : at0 (a ++ b) i = at0 a i := by
  unfold at0
  rw [List.getD_eq_getElem?_getD, List.getD_eq_getElem?_getD, List.getElem?_append_left (by omega)]
theorem at0_last (a : List Int) (n : Int) (b : List Int) : at0 (a ++ n :: b) a.length = n := by
  unfold at0
  rw [List.getD_eq_getElem?_getD]
  simp
theorem differ_iff (w : Wb) (ns : List Int) : differN w ns = true ↔ (linesN w ns).Nodup := by
  unfold differN
  rw [decide_eq_true_eq, ← dcount_full]
  have : (linesN w ns).length = w.2.length := by unfold linesN; rw [List.length_map]
  rw [this]
/-- valid as far as the first k places go -/
structure PV (w : Wb) (top : Int) (k : Nat) (b : List Int) : Prop where
  len : b.length = k
  rg : ∀ n ∈ b, 0 ≤ n ∧ n ≤ top
  nd : b.Nodup
  ln : (linesN (w.1, linesTo w ((k : Int) - 1)) b).Nodup
theorem linesTo_ends {w : Wb} (g : GoodW w) {p : Int} : ∀ q ∈ linesTo w p, 0 ≤ q.1 ∧ q.1 < q.2 ∧ q.2 < w.1 ∧ q.2 ≤ p := fun q hq => by
  unfold linesTo at hq
  obtain ⟨h1, h2⟩ := List.mem_filter.mp hq
  have := g.line q h1
  have := of_decide_eq_true h2
  omega
theorem lines_app {w : Wb} (g : GoodW w) {p : Int} {s b : List Int} (h : p < s.length) : linesN (w.1, linesTo w p) (s ++ b) = linesN (w.1, linesTo w p) s := by
  unfold linesN
  refine List.map_congr_left fun q hq => ?_
  have := linesTo_ends g q hq
  rw [at0_app (by omega) (by omega), at0_app (by omega) (by omega)]
theorem linesTo_sub (w : Wb) {p p' : Int} (h : p ≤ p') : (linesTo w p).Sublist (linesTo w p') := by
  have e : linesTo w p = (linesTo w p').filter fun q => decide (q.2 ≤ p) := by
    unfold linesTo
    rw [List.filter_filter]
    refine List.filter_congr fun q _ => ?_
    by_cases z : q.2 ≤ p
    · rw [decide_eq_true z, decide_eq_true (show q.2 ≤ p' by omega)]; rfl
    · rw [decide_eq_false z]; rfl
  rw [e]
  exact List.filter_sublist
theorem PV.take {w : Wb} (g : GoodW w) {top : Int} {k : Nat} {s b : List Int} (h : PV w top k (s ++ b)) : PV w top s.length s where
  len := rfl
  rg := fun n hn => h.rg n (List.mem_append_left _ hn)
  nd := (List.nodup_append.mp h.nd).1
  ln := by
    have hl := h.len
    rw [List.length_append] at hl
    rw [← lines_app g (b := b) (by omega)]
    exact h.ln.sublist ((linesTo_sub w (by omega)).map _)
theorem okExt_iff {w : Wb} {s : List Int} {n : Int} : okExt w s.length s n = true ↔ n ∉ s ∧ (linesN (w.1, linesTo w s.length) (s ++ [n])).Nodup := by
  unfold okExt
  rw [Bool.and_eq_true, differ_iff]
  simp
theorem pv_snoc {w : Wb} (g : GoodW w) {top : Int} {s : List Int} {n : Int} : PV w top (s.length + 1) (s ++ [n]) ↔ PV w top s.length s ∧ 0 ≤ n ∧ n ≤ top ∧ okExt w s.length s n = true := by
  have e : ((s.length + 1 : Nat) : Int) - 1 = s.length := by omega
  constructor
  · intro h
    have r := h.rg n (by simp)
    have nd := List.nodup_append.mp h.nd
    refine ⟨h.take g, r.1, r.2, okExt_iff.mpr ⟨fun hn => nd.2.2 n hn n (by simp) rfl, ?_⟩⟩
    have := h.ln
    rw [e] at this
    exact this
  · rintro ⟨h, h0, h1, h2⟩
    obtain ⟨h3, h4⟩ := okExt_iff.mp h2
    refine ⟨by simp, fun m hm => ?_, ?_, by rw [e]; exact h4⟩
    · rcases List.mem_append.mp hm with z | z
      · exact h.rg m z
      · simp at z; subst z; exact ⟨h0, h1⟩
    · rw [List.nodup_append]
      refine ⟨h.nd, by simp, fun a ha b hb => ?_⟩
      simp at hb
      subst hb
      exact fun z => h3 (z ▸ ha)
theorem snoc_of {b : List Int} {k : Nat} (h : b.length = k + 1) : ∃ s n, b = s ++ [n] ∧ s.length = k := by
  refine ⟨b.dropLast, b.getLast (fun z => by rw [z] at h; cases h), (List.dropLast_concat_getLast _).symm, by rw [List.length_dropLast]; omega⟩
theorem lev_mem {w : Wb} (g : GoodW w) (top : Int) : ∀ (k : Nat) (b : List Int), b ∈ lev w top k ↔ PV w top k b
  | 0, b => by
    unfold lev
    constructor
    · intro h
      have : b = [] := by simpa [ri] using h
      subst this
      have e : linesTo w (((0 : Nat) : Int) - 1) = [] := by
        unfold linesTo
        rw [List.filter_eq_nil_iff]
        intro q hq
        have := g.line q hq
        simp; omega
      exact ⟨rfl, (fun _ h => by cases h), List.nodup_nil, by rw [e]; exact List.nodup_nil⟩
    · intro h
      have : b = [] := List.eq_nil_of_length_eq_zero h.len
      subst this
      simp [ri]
  | k + 1, b => by
    rw [lev_succ]
    constructor
    · intro h
      obtain ⟨s, hs, ht⟩ := step_mem h
      have hl := lev_len w top k s hs
      obtain ⟨n, rfl, h0, h1, h2⟩ := mem_ext ht
      subst hl
      exact (pv_snoc g).mpr ⟨(lev_mem g top _ s).mp hs, h0, h1, h2⟩
    · intro h
      obtain ⟨s, n, rfl, hl⟩ := snoc_of h.len
      subst hl
      obtain ⟨h1, h2, h3, h4⟩ := (pv_snoc g).mp h
      unfold allStep
      refine List.mem_flatten.mpr ⟨extOf w top s.length s, List.mem_map.mpr ⟨s, (lev_mem g top _ s).mpr h1, rfl⟩, ?_⟩
      unfold extOf
      exact List.mem_map.mpr ⟨n, List.mem_filter.mpr ⟨mem_ri.mpr (by omega), h4⟩, rfl⟩
/-- a numbering with a top and different lines -/
structure Val (w : Wb) (top : Int) (c : List Int) : Prop where
  fit : FitsN w top c
  ln : (linesN w c).Nodup
theorem linesTo_all {w : Wb} (g : GoodW w) {p : Int} (h : w.1 - 1 ≤ p) : linesTo w p = w.2 := by
  unfold linesTo
  rw [List.filter_eq_self]
  intro q hq
  have := g.line q hq
  exact decide_eq_true (by omega)
theorem pv_val {w : Wb} (g : GoodW w) {top : Int} {c : List Int} : PV w top w.1.toNat c ↔ Val w top c := by
  have lo := g.lo
  have e : (linesTo w ((w.1.toNat : Int) - 1)) = w.2 := linesTo_all g (by omega)
  constructor
  · intro h
    have := h.ln
    rw [e] at this
    exact ⟨⟨by rw [h.len]; omega, h.rg, h.nd⟩, this⟩
  · intro h
    exact ⟨by have := h.fit.len; omega, h.fit.rg, h.fit.nd, by rw [e]; exact h.ln⟩
theorem all_mem {w : Wb} (g : GoodW w) {top : Int} {c : List Int} : c ∈ allN w top ↔ Val w top c := (lev_mem g top _ c).trans (pv_val g)
theorem val_iff {w : Wb} {top : Int} {c : List Int} : Val w top c ↔ fitsN w top c = true ∧ differN w c = true :=
  ⟨fun h => ⟨of_fits h.fit, (differ_iff w c).mpr h.ln⟩, fun h => ⟨fits_of h.1, (differ_iff w c).mp h.2⟩⟩
/-! ### renaming places -/
def pull (n : Nat) (f : Int → Int) (c : List Int) : List Int := (ri 0 n).map fun i => at0 c (f i)
theorem pull_len (n : Nat) (f : Int → Int) (c : List Int) : (pull n f c).length = n := by unfold pull; rw [List.length_map, ri_len]
theorem at0_pull {n : Nat} {f : Int → Int} {c : List Int} {i : Int} (h0 : 0 ≤ i) (h1 : i < n) : at0 (pull n f c) i = at0 c (f i) := by
  show ((ri 0 n).map fun i => at0 c (f i)).getD i.toNat 0 = _
  unfold ri
  rw [List.map_map, List.getD_eq_getElem?_getD, List.getElem?_map, List.getElem?_range (by omega)]
  show at0 c (f (0 + (i.toNat : Int))) = _
  rw [show (0 : Int) + (i.toNat : Int) = i by omega]
theorem at0_inj {c : List Int} (nd : c.Nodup) {i j : Int} (hi : 0 ≤ i ∧ i < c.length) (hj : 0 ≤ j ∧ j < c.length) (h : at0 c i = at0 c j) : i = j := by
  unfold at0 at h
  rw [List.getD_eq_getElem?_getD, List.getD_eq_getElem?_getD, List.getElem?_eq_getElem (by omega), List.getElem?_eq_getElem (by omega)] at h
  have := (List.getElem_inj nd).mp (by simpa using h)
  omega
/-- f renames the places below n -/
structure Rn (n : Int) (f : Int → Int) : Prop where
  to : ∀ i, 0 ≤ i → i < n → 0 ≤ f i ∧ f i < n
  inj : ∀ i j, 0 ≤ i → i < n → 0 ≤ j → j < n → f i = f j → i = j
theorem nodup_map {α β : Type} {f : α → β} : ∀ {l : List α}, l.Nodup → (∀ x ∈ l, ∀ y ∈ l, f x = f y → x = y) → (l.map f).Nodup
  | [], _, _ => List.nodup_nil
  | x :: l, h, hf => by
    rw [List.map_cons, List.nodup_cons]
    have h' := List.nodup_cons.mp h
    refine ⟨fun hm => ?_, nodup_map h'.2 fun a ha b hb => hf a (List.mem_cons_of_mem _ ha) b (List.mem_cons_of_mem _ hb)⟩
    obtain ⟨y, hy, e⟩ := List.mem_map.mp hm
    have := hf y (List.mem_cons_of_mem _ hy) x List.mem_cons_self e
    exact h'.1 (this ▸ hy)
theorem pull_fits {w : Wb} {top : Int} {c : List Int} {f : Int → Int} (r : Rn w.1 f) (lo : 1 ≤ w.1) (h : FitsN w top c) : FitsN w top (pull w.1.toNat f c) where
  len := by rw [pull_len]; omega
  rg := fun n hn => by
    unfold pull at hn
    obtain ⟨i, hi, rfl⟩ := List.mem_map.mp hn
    have hi := mem_ri.mp hi
    have := r.to i (by omega) (by omega)
    exact h.rg _ (at0_mem this.1 (by have := h.len; omega))
  nd := by
    unfold pull
    refine nodup_map (ri_nodup _ _) fun x hx y hy e => ?_
    have hx := mem_ri.mp hx
    have hy := mem_ri.mp hy
    have tx := r.to x (by omega) (by omega)
    have ty := r.to y (by omega) (by omega)
    have hl := h.len
    exact r.inj x y (by omega) (by omega) (by omega) (by omega) (at0_inj h.nd (by omega) (by omega) e)
theorem iabs_sub (a b : Int) : iabs (a - b) = iabs (b - a) := by unfold iabs; split <;> split <;> omega
def lineR (f : Int → Int) (q : Int × Int) : Int × Int := ordP (f q.1) (f q.2)
theorem lines_pull {w w' : Wb} (g : GoodW w) {c : List Int} {f : Int → Int} : linesN w (pull w.1.toNat f c) = linesN (w.1, w.2.map (lineR f)) c := by
  unfold linesN
  rw [List.map_map]
  refine List.map_congr_left fun q hq => ?_
  have := g.line q hq
  rw [at0_pull (by omega) (by omega), at0_pull (by omega) (by omega)]
  show _ = iabs (at0 c (ordP (f q.1) (f q.2)).1 - at0 c (ordP (f q.1) (f q.2)).2)
  unfold ordP
  split
  · rfl
  · exact iabs_sub _ _
/-- other: the web w with the places renamed by f -/
theorem val_pull {w o : Wb} {top : Int} {c : List Int} {f : Int → Int} (g : GoodW w) (r : Rn w.1 f) (h1 : o.1 = w.1) (h2 : o.2.Perm (w.2.map (lineR f))) (h : Val o top c) : Val w top (pull w.1.toNat f c) where
  fit := pull_fits r g.lo ⟨by rw [← h1]; exact h.fit.len, h.fit.rg, h.fit.nd⟩
  ln := by
    rw [lines_pull (w' := w) g]
    have : (linesN o c).Perm (linesN (w.1, w.2.map (lineR f)) c) := h2.map _
    exact this.nodup_iff.mp h.ln
theorem perm_of_sub {α : Type} [DecidableEq α] : ∀ {l m : List α}, l.Nodup → (∀ x ∈ l, x ∈ m) → m.length ≤ l.length → l.Perm m
  | [], m, _, _, h => by
    have : m = [] := List.eq_nil_of_length_eq_zero (by simpa using h)
    rw [this]
  | x :: l, m, hn, hs, hl => by
    have hx := hs x List.mem_cons_self
    have h' := List.nodup_cons.mp hn
    refine List.Perm.trans (List.Perm.cons x (perm_of_sub h'.2 (fun y hy => ?_) ?_)) (List.perm_cons_erase hx).symm
    · exact (List.mem_erase_of_ne (fun z => h'.1 (by rw [← z]; exact hy))).mpr (hs y (List.mem_cons_of_mem _ hy))
    · rw [List.length_erase_of_mem hx]
      simp at hl
      omega
theorem lines_nodup {w : Wb} (g : GoodW w) : w.2.Nodup := (ascB_iff w.2 g.asc).imp fun {p q} h e => by
  subst e
  rcases (ltPr_iff p p).mp h with z | ⟨_, z⟩ <;> omega
theorem ordP_inj {a b c d : Int} (h : ordP a b = ordP c d) : (a = c ∧ b = d) ∨ (a = d ∧ b = c) := by
  unfold ordP at h
  split at h <;> split at h <;> simp only [Prod.mk.injEq] at h <;> omega
theorem lineR_inj {w : Wb} (g : GoodW w) {f : Int → Int} (r : Rn w.1 f) : ∀ p ∈ w.2, ∀ q ∈ w.2, lineR f p = lineR f q → p = q := fun p hp q hq e => by
  have lp := g.line p hp
  have lq := g.line q hq
  rcases ordP_inj e with ⟨h1, h2⟩ | ⟨h1, h2⟩
  · have a := r.inj _ _ (by omega) (by omega) (by omega) (by omega) h1
    have b := r.inj _ _ (by omega) (by omega) (by omega) (by omega) h2
    exact Prod.ext a b
  · have a := r.inj _ _ (by omega) (by omega) (by omega) (by omega) h1
    have b := r.inj _ _ (by omega) (by omega) (by omega) (by omega) h2
    omega
/-! ### twins -/
def adj (w : Wb) (x y : Int) : Prop := (x, y) ∈ w.2 ∨ (y, x) ∈ w.2
theorem adj_symm {w : Wb} {x y : Int} (h : adj w x y) : adj w y x := h.symm
theorem mem_near {w : Wb} (g : GoodW w) {p x : Int} : x ∈ nearN w p ↔ adj w p x := by
  unfold nearN
  rw [List.mem_map]
  constructor
  · rintro ⟨q, hq, rfl⟩
    obtain ⟨h1, h2⟩ := List.mem_filter.mp hq
    have h2 : p = q.1 ∨ p = q.2 := by simpa using h2
    rcases h2 with rfl | rfl
    · exact .inl (by rw [show q.1 + q.2 - q.1 = q.2 by omega]; exact h1)
    · exact .inr (by rw [show q.1 + q.2 - q.2 = q.1 by omega]; exact h1)
  · rintro (h | h)
    · exact ⟨(p, x), List.mem_filter.mpr ⟨h, by simp⟩, by simp; omega⟩
    · exact ⟨(x, p), List.mem_filter.mpr ⟨h, by simp⟩, by simp⟩
theorem adj_ne {w : Wb} (g : GoodW w) {x y : Int} (h : adj w x y) : x ≠ y ∧ (0 ≤ x ∧ x < w.1) ∧ (0 ≤ y ∧ y < w.1) := by
  rcases h with h | h
  · have := g.line _ h
    simp at this; omega
  · have := g.line _ h
    simp at this; omega
theorem mem_ordP {w : Wb} (g : GoodW w) {x y : Int} (h : adj w x y) : ordP x y ∈ w.2 := by
  unfold ordP
  rcases h with h | h
  · have := g.line _ h
    simp at this
    rw [if_pos (by omega)]; exact h
  · have := g.line _ h
    simp at this
    rw [if_neg (by omega)]; exact h
theorem near_nodup {w : Wb} (g : GoodW w) (p : Int) : (nearN w p).Nodup := by
  unfold nearN
  refine nodup_map ((lines_nodup g).filter _) fun a ha b hb e => ?_
  obtain ⟨a1, a2⟩ := List.mem_filter.mp ha
  obtain ⟨b1, b2⟩ := List.mem_filter.mp hb
  have la := g.line a a1
  have lb := g.line b b1
  have a2 : p = a.1 ∨ p = a.2 := by simpa using a2
  have b2 : p = b.1 ∨ p = b.2 := by simpa using b2
  exact Prod.ext (by omega) (by omega)
theorem sortI_eq_iff {a b : List Int} : sortI a = sortI b ↔ a.Perm b :=
  ⟨fun h => (sortI_perm a).symm.trans (h ▸ sortI_perm b), fun h => sortI_is ((sortI_perm a).trans h) (sortI_sorted a)⟩
theorem twin_iff {w : Wb} (g : GoodW w) {a b : Int} : twinN w a b = true ↔ ∀ x, x ≠ a → x ≠ b → (adj w a x ↔ adj w b x) := by
  unfold twinN
  rw [decide_eq_true_eq, sortI_eq_iff]
  have m1 : ∀ x, x ∈ ((nearN w a).filter fun x => !decide (x = b)) ↔ adj w a x ∧ x ≠ b := fun x => by
    rw [List.mem_filter, mem_near g]; simp
  have m2 : ∀ x, x ∈ ((nearN w b).filter fun x => !decide (x = a)) ↔ adj w b x ∧ x ≠ a := fun x => by
    rw [List.mem_filter, mem_near g]; simp
  constructor
  · intro h x xa xb
    constructor
    · intro z; exact ((m2 x).mp (h.mem_iff.mp ((m1 x).mpr ⟨z, xb⟩))).1
    · intro z; exact ((m1 x).mp (h.mem_iff.mpr ((m2 x).mpr ⟨z, xa⟩))).1
  · intro h
    have s : ∀ x, x ∈ ((nearN w a).filter fun x => !decide (x = b)) ↔ x ∈ ((nearN w b).filter fun x => !decide (x = a)) := fun x => by
      rw [m1, m2]
      constructor
      · rintro ⟨z, zb⟩
        have za := (adj_ne g z).1
        exact ⟨(h x za.symm zb).mp z, za.symm⟩
      · rintro ⟨z, za⟩
        have zb := (adj_ne g z).1
        exact ⟨(h x za zb.symm).mpr z, zb.symm⟩
    have n1 := (near_nodup g a).filter fun x => !decide (x = b)
    have n2 := (near_nodup g b).filter fun x => !decide (x = a)
    exact perm_of_sub n1 (fun x hx => (s x).mp hx) (len_le_of_sub n2 fun x hx => (s x).mpr hx)
def tau (t p x : Int) : Int := if x = t then p else if x = p then t else x
theorem tau_tau (t p x : Int) : tau t p (tau t p x) = x := by unfold tau; (repeat' split) <;> omega
theorem tau_rn {n t p : Int} (ht : 0 ≤ t ∧ t < n) (hp : 0 ≤ p ∧ p < n) : Rn n (tau t p) where
  to := fun i h0 h1 => by unfold tau; (repeat' split) <;> omega
  inj := fun i j _ _ _ _ h => by rw [← tau_tau t p i, h, tau_tau]
theorem tau_adj {w : Wb} (g : GoodW w) {t p : Int} (h : twinN w t p = true) {x y : Int} (ha : adj w x y) : adj w (tau t p x) (tau t p y) := by
  have hh := (twin_iff g).mp h
  have ne := (adj_ne g ha).1
  unfold tau
  by_cases xt : x = t
  · subst xt
    rw [if_pos rfl]
    by_cases yp : y = p
    · subst yp
      rw [if_neg (fun z => ne z.symm), if_pos rfl]
      exact adj_symm ha
    · rw [if_neg (fun z => ne z.symm), if_neg yp]
      exact (hh y (fun z => ne z.symm) yp).mp ha
  · rw [if_neg xt]
    by_cases xp : x = p
    · subst xp
      rw [if_pos rfl]
      by_cases yt : y = t
      · subst yt
        rw [if_pos rfl]; exact adj_symm ha
      · rw [if_neg yt, if_neg (fun z => ne z.symm)]
        exact (hh y yt (fun z => ne z.symm)).mpr ha
    · rw [if_neg xp]
      by_cases yt : y = t
      · subst yt
        rw [if_pos rfl]
        exact adj_symm ((hh x xt xp).mp (adj_symm ha))
      · rw [if_neg yt]
        by_cases yp : y = p
        · subst yp
          rw [if_pos rfl]
          exact adj_symm ((hh x xt xp).mpr (adj_symm ha))
        · rw [if_neg yp]; exact ha
theorem tau_perm {w : Wb} (g : GoodW w) {t p : Int} (ht : 0 ≤ t ∧ t < w.1) (hp : 0 ≤ p ∧ p < w.1) (h : twinN w t p = true) : w.2.Perm (w.2.map (lineR (tau t p))) :=
  (perm_of_sub (nodup_map (lines_nodup g) (lineR_inj g (tau_rn ht hp))) (fun x hx => by
    obtain ⟨q, hq, rfl⟩ := List.mem_map.mp hx
    exact mem_ordP g (tau_adj g h (.inl hq))) (by rw [List.length_map]; exact Nat.le_refl _)).symm
theorem val_swap {w : Wb} (g : GoodW w) {t p top : Int} {c : List Int} (ht : 0 ≤ t ∧ t < w.1) (hp : 0 ≤ p ∧ p < w.1) (h : twinN w t p = true) (v : Val w top c) : Val w top (pull w.1.toNat (tau t p) c) :=
  val_pull g (tau_rn ht hp) rfl (tau_perm g ht hp h) v
theorem twin_symm {w : Wb} (g : GoodW w) {a b : Int} (h : twinN w a b = true) : twinN w b a = true :=
  (twin_iff g).mpr fun x xb xa => ((twin_iff g).mp h x xa xb).symm
theorem twin_trans {w : Wb} (g : GoodW w) {a b c : Int} (hac : a ≠ c) (h1 : twinN w a b = true) (h2 : twinN w b c = true) : twinN w a c = true := by
  by_cases ab : a = b
  · subst ab; exact h2
  by_cases bc : b = c
  · subst bc; exact h1
  have h1 := (twin_iff g).mp h1
  have h2 := (twin_iff g).mp h2
  refine (twin_iff g).mpr fun x xa xc => ?_
  by_cases xb : x = b
  · subst xb
    constructor
    · intro z
      have z1 : adj w a x := z
      -- x = b: adj a b; c: adj b a -> adj c a -> adj a c -> adj b c
      have z2 : adj w c a := (h2 a (fun e => ab e) (fun e => hac e)).mp (adj_symm z1)
      have z3 : adj w x c := (h1 c (fun e => hac e.symm) (fun e => bc e.symm)).mp (adj_symm z2)
      exact adj_symm z3
    · intro z
      have z2 : adj w a c := (h1 c (fun e => hac e.symm) (fun e => bc e.symm)).mpr (adj_symm z)
      have z3 : adj w x a := (h2 a (fun e => ab e) (fun e => hac e)).mpr (adj_symm z2)
      exact adj_symm z3
  · exact (h1 x xa xb).trans (h2 x xb xc)
end U
/-! Th2: the pruned search finds the first numbering. -/
namespace U
open PySem L2 DL
def treeN (pl : Pl) (top fixed : Int) : Nat → List Int → List Int → List (List Int)
  | 0, b, _ => if b.length = pl.length then [b] else []
  | d + 1, b, used => if b.length = pl.length then [b] else (nextN pl top b fixed used).flatMap fun x => treeN pl top fixed d x.1 x.2
theorem firstIn_head (pl : Pl) (top fixed : Int) : ∀ (d : Nat) (b used : List Int), firstIn pl top fixed d b used = (treeN pl top fixed d b used).head?
  | 0, b, used => by unfold firstIn treeN; split <;> rfl
  | d + 1, b, used => by
    unfold firstIn treeN
    split
    · rfl
    · rw [List.head?_flatMap]
      congr 1
      funext x
      exact firstIn_head pl top fixed d x.1 x.2
theorem next_mem_iff {pl : Pl} {top fixed : Int} {b used : List Int} {x : List Int × List Int} : x ∈ nextN pl top b fixed used ↔ ∃ n, x = (b ++ [n], used ++ diffs (plAt pl b.length).1 b n) ∧ lowN (plAt pl b.length).2 b fixed < n ∧ n ≤ top ∧ okNext (plAt pl b.length) b used n = true := by
  unfold nextN
  rw [List.mem_map]
  constructor
  · rintro ⟨n, hn, rfl⟩
    obtain ⟨h1, h2⟩ := List.mem_filter.mp hn
    have := mem_ri.mp h1
    exact ⟨n, rfl, by omega, by omega, h2⟩
  · rintro ⟨n, rfl, h1, h2, h3⟩
    exact ⟨n, List.mem_filter.mpr ⟨mem_ri.mpr (by omega), h3⟩, rfl⟩
theorem tree_pre (pl : Pl) (top fixed : Int) : ∀ (d : Nat) (b used c : List Int), c ∈ treeN pl top fixed d b used → ∃ r, c = b ++ r
  | 0, b, used, c, h => by
    unfold treeN at h
    split at h
    · exact ⟨[], by simpa using h⟩
    · cases h
  | d + 1, b, used, c, h => by
    unfold treeN at h
    split at h
    · exact ⟨[], by simpa using h⟩
    · obtain ⟨x, hx, hc⟩ := List.mem_flatMap.mp h
      obtain ⟨n, rfl, _⟩ := next_mem_iff.mp hx
      obtain ⟨r, rfl⟩ := tree_pre pl top fixed d _ _ c hc
      exact ⟨n :: r, by simp⟩
theorem tree_sorted (pl : Pl) (top fixed : Int) : ∀ (d : Nat) (b used : List Int), (treeN pl top fixed d b used).Pairwise Lx
  | 0, b, used => by
    unfold treeN
    split
    · exact List.pairwise_singleton _ _
    · exact List.Pairwise.nil
  | d + 1, b, used => by
    unfold treeN
    split
    · exact List.pairwise_singleton _ _
    · rw [List.flatMap_def, List.pairwise_flatten]
      refine ⟨fun l hl => ?_, ?_⟩
      · obtain ⟨x, _, rfl⟩ := List.mem_map.mp hl
        exact tree_sorted pl top fixed d _ _
      · rw [List.pairwise_map]
        unfold nextN
        rw [List.pairwise_map]
        refine ((ri_sorted _ _).filter _).imp fun {m n} h x hx y hy => ?_
        obtain ⟨r, rfl⟩ := tree_pre pl top fixed d _ _ x hx
        obtain ⟨s, rfl⟩ := tree_pre pl top fixed d _ _ y hy
        simp only [List.append_assoc, List.singleton_append]
        exact lx_lt b r s h
/-! ### the plan -/
theorem planN_len' (v : Wb) : (planN v).length = v.1.toNat := by unfold planN; rw [List.length_map, ri_len]
theorem planN_at' (v : Wb) {i : Nat} (h : i < v.1.toNat) : plAt (planN v) i = planAt v i := by
  unfold plAt planN ri
  rw [List.getD_eq_getElem?_getD, List.getElem?_map, List.getElem?_map, List.getElem?_range h]
  show planAt v (0 + (i : Int)) = _
  rw [Int.zero_add]
theorem plan_near {w : Wb} (g : GoodW w) (p : Int) : (planAt w p).1 = (w.2.filter fun q => decide (q.2 = p)).map fun q => q.1 := by
  unfold planAt nearN
  show List.filter _ (List.map _ (List.filter _ w.2)) = _
  rw [List.filter_map, List.filter_filter]
  have hf : (w.2.filter fun q => ((fun o => decide (o < p)) ∘ fun q : Int × Int => q.1 + q.2 - p) q && [q.1, q.2].contains p) = w.2.filter fun q => decide (q.2 = p) := by
    refine List.filter_congr fun q hq => ?_
    have := g.line q hq
    rw [Bool.eq_iff_iff]
    simp
    omega
  rw [hf]
  refine List.map_congr_left fun q hq => ?_
  have := of_decide_eq_true (List.mem_filter.mp hq).2
  omega
theorem used_snoc {w : Wb} (g : GoodW w) {b : List Int} {n : Int} (h : b.length < w.1.toNat) : usedN (planN w) (b ++ [n]) = usedN (planN w) b ++ diffs (plAt (planN w) b.length).1 b n := by
  have near : ∀ i, i < w.1.toNat → ∀ x ∈ (plAt (planN w) i).1, 0 ≤ x ∧ x < (i : Int) := fun i hi x hx => by
    rw [planN_at' w hi, plan_near g] at hx
    obtain ⟨q, hq, rfl⟩ := List.mem_map.mp hx
    obtain ⟨h1, h2⟩ := List.mem_filter.mp hq
    have := g.line q h1
    have := of_decide_eq_true h2
    omega
  have dsame : ∀ (ps : List Int) (m : Int), (∀ x ∈ ps, 0 ≤ x ∧ x < (b.length : Int)) → diffs ps (b ++ [n]) m = diffs ps b m := fun ps m hp => by
    unfold diffs
    refine List.map_congr_left fun x hx => ?_
    have := hp x hx
    rw [at0_app (by omega) (by omega)]
  unfold usedN
  rw [List.length_append, List.length_singleton, List.range_succ, List.foldl_append]
  show _ ++ diffs _ (b ++ [n]) _ = _
  have e1 : (b ++ [n]).getD b.length 0 = n := by simp
  rw [e1, dsame _ _ (near b.length h)]
  congr 1
  have : ∀ (is : List Nat) (l : List Int), (∀ i ∈ is, i < b.length) → is.foldl (fun l i => l ++ diffs (plAt (planN w) i).1 (b ++ [n]) ((b ++ [n]).getD i 0)) l = is.foldl (fun l i => l ++ diffs (plAt (planN w) i).1 b (b.getD i 0)) l := by
    intro is
    induction is with
    | nil => intros; rfl
    | cons i is ih =>
      intro l hi
      have hib := hi i List.mem_cons_self
      rw [List.foldl_cons, List.foldl_cons, dsame _ _ (fun x hx => by have := near i (by omega) x hx; omega), show (b ++ [n]).getD i 0 = b.getD i 0 by rw [List.getD_eq_getElem?_getD, List.getD_eq_getElem?_getD, List.getElem?_append_left hib]]
      exact ih _ fun j hj => hi j (List.mem_cons_of_mem _ hj)
  exact this _ _ fun i hi => List.mem_range.mp hi
theorem linesTo_split (w : Wb) (p : Int) : (linesTo w p).Perm (linesTo w (p - 1) ++ w.2.filter fun q => decide (q.2 = p)) := by
  unfold linesTo
  induction w.2 with
  | nil => exact List.Perm.refl _
  | cons q l ih =>
    by_cases h1 : q.2 = p
    · rw [List.filter_cons_of_pos (by simp; omega), List.filter_cons_of_neg (by simp; omega), List.filter_cons_of_pos (by simp [h1])]
      exact (ih.cons q).trans List.perm_middle.symm
    · by_cases h2 : q.2 ≤ p
      · rw [List.filter_cons_of_pos (by simp [h2]), List.filter_cons_of_pos (by simp; omega), List.filter_cons_of_neg (by simp [h1])]
        exact ih.cons q
      · rw [List.filter_cons_of_neg (by simp; omega), List.filter_cons_of_neg (by simp; omega), List.filter_cons_of_neg (by simp [h1])]
        exact ih
theorem used_perm {w : Wb} (g : GoodW w) : ∀ (k : Nat) (b : List Int), b.length = k → k ≤ w.1.toNat → (usedN (planN w) b).Perm (linesN (w.1, linesTo w ((k : Int) - 1)) b)
  | 0, b, hb, _ => by
    have : b = [] := List.eq_nil_of_length_eq_zero hb
    subst this
    have e : linesTo w (((0 : Nat) : Int) - 1) = [] := by
      unfold linesTo
      rw [List.filter_eq_nil_iff]
      intro q hq
      have := g.line q hq
      simp; omega
    rw [e]
    exact List.Perm.refl _
  | k + 1, b, hb, hk => by
    obtain ⟨s, n, rfl, hs⟩ := snoc_of hb
    subst hs
    rw [used_snoc g (by omega), planN_at' w (by omega), plan_near g]
    have ih := used_perm g s.length s rfl (by omega)
    have e : ((s.length + 1 : Nat) : Int) - 1 = s.length := by omega
    rw [e]
    have sp := (linesTo_split w s.length).map fun q => iabs (at0 (s ++ [n]) q.1 - at0 (s ++ [n]) q.2)
    refine List.Perm.trans ?_ sp.symm
    rw [List.map_append]
    refine List.Perm.append ?_ ?_
    · have : linesN (w.1, linesTo w ((s.length : Int) - 1)) (s ++ [n]) = linesN (w.1, linesTo w ((s.length : Int) - 1)) s := lines_app g (by omega)
      exact ih.trans (by rw [← this]; exact List.Perm.refl _)
    · unfold diffs
      rw [List.map_map]
      refine List.Perm.of_eq (List.map_congr_left fun q hq => ?_)
      obtain ⟨h1, h2⟩ := List.mem_filter.mp hq
      have := g.line q h1
      have h2 := of_decide_eq_true h2
      show iabs (at0 s q.1 - n) = _
      rw [h2, at0_last, at0_app (by omega) (by omega)]
theorem low_iff {tw b : List Int} {fixed n : Int} : lowN tw b fixed < n ↔ 0 ≤ n ∧ ∀ t ∈ tw, fixed ≤ t → at0 b t < n := by
  unfold lowN
  constructor
  · intro h
    have hg := fmax_ge ((tw.filter fun t => decide (fixed ≤ t)).map (at0 b)) (-1)
    refine ⟨by omega, fun t ht hf => ?_⟩
    have := hg.2 (at0 b t) (List.mem_map.mpr ⟨t, List.mem_filter.mpr ⟨ht, decide_eq_true hf⟩, rfl⟩)
    omega
  · rintro ⟨h0, h1⟩
    rcases fmax_mem ((tw.filter fun t => decide (fixed ≤ t)).map (at0 b)) (-1) with h | h
    · omega
    · obtain ⟨t, ht, e⟩ := List.mem_map.mp h
      obtain ⟨h2, h3⟩ := List.mem_filter.mp ht
      rw [← e]
      exact h1 t h2 (of_decide_eq_true h3)
theorem okNext_iff {w : Wb} (g : GoodW w) {b : List Int} {n : Int} (h : b.length < w.1.toNat) : okNext (plAt (planN w) b.length) b (usedN (planN w) b) n = true ↔ okExt w b.length b n = true := by
  rw [okExt_iff]
  unfold okNext
  rw [Bool.and_eq_true, decide_eq_true_eq, dcount_full, ← used_snoc g h]
  have := (used_perm g (b.length + 1) (b ++ [n]) (by simp) (by omega)).nodup_iff
  rw [show ((b.length + 1 : Nat) : Int) - 1 = b.length by omega] at this
  rw [this]
  simp
/-- twins behind fixed have ascending numbers, from place k on -/
def Canon (w : Wb) (fixed k : Int) (c : List Int) : Prop := ∀ p, k ≤ p → p < w.1 → ∀ t, 0 ≤ t → fixed ≤ t → t < p → twinN w t p = true → at0 c t < at0 c p
theorem tree_mem {w : Wb} (g : GoodW w) {top fixed : Int} : ∀ (d : Nat) (b : List Int), b.length + d = w.1.toNat → PV w top b.length b →
    ∀ c, c ∈ treeN (planN w) top fixed d b (usedN (planN w) b) ↔ (∃ r, c = b ++ r) ∧ Val w top c ∧ Canon w fixed b.length c
  | 0, b, hd, pv, c => by
    have hl : b.length = w.1.toNat := by omega
    unfold treeN
    rw [planN_len', if_pos hl, List.mem_singleton]
    constructor
    · rintro rfl
      rw [hl] at pv
      refine ⟨⟨[], by simp⟩, (pv_val g).mp pv, fun p h1 h2 => by omega⟩
    · rintro ⟨⟨r, rfl⟩, v, _⟩
      have := v.fit.len
      rw [List.length_append] at this
      have hr : r = [] := List.eq_nil_of_length_eq_zero (by omega)
      rw [hr, List.append_nil]
  | d + 1, b, hd, pv, c => by
    have hl : b.length < w.1.toNat := by omega
    have lo := g.lo
    unfold treeN
    rw [planN_len', if_neg (by omega), List.mem_flatMap]
    have twm : ∀ t, t ∈ (plAt (planN w) b.length).2 ↔ (0 ≤ t ∧ t < (b.length : Int)) ∧ twinN w t b.length = true := fun t => by
      rw [planN_at' w hl]
      unfold planAt
      rw [List.mem_filter, mem_ri]
      constructor
      · rintro ⟨h1, h2⟩; exact ⟨by omega, h2⟩
      · rintro ⟨h1, h2⟩; exact ⟨by omega, h2⟩
    constructor
    · rintro ⟨x, hx, hc⟩
      obtain ⟨n, rfl, h1, h2, h3⟩ := next_mem_iff.mp hx
      obtain ⟨h0, h1⟩ := low_iff.mp h1
      have pv' := (pv_snoc g (top := top) (s := b) (n := n)).mpr ⟨pv, h0, h2, (okNext_iff g hl).mp h3⟩
      rw [← used_snoc g hl] at hc
      have hc : c ∈ treeN (planN w) top fixed d (b ++ [n]) (usedN (planN w) (b ++ [n])) := hc
      have ih := (tree_mem g (top := top) (fixed := fixed) d (b ++ [n]) (by simp; omega) (by simpa using pv') c).mp hc
      obtain ⟨⟨r, rfl⟩, v, cn⟩ := ih
      refine ⟨⟨n :: r, by simp⟩, v, fun p hp hp2 t t0 tf tp tw => ?_⟩
      by_cases e : p = b.length
      · subst e
        have := h1 t ((twm t).mpr ⟨⟨t0, tp⟩, tw⟩) tf
        rw [List.append_assoc, List.singleton_append, at0_last, at0_app (by omega) (by omega)]
        exact this
      · exact cn p (by simp; omega) hp2 t t0 tf tp tw
    · rintro ⟨⟨r, rfl⟩, v, cn⟩
      cases r with
      | nil =>
        have := v.fit.len
        simp at this
        omega
      | cons n r =>
        have pvc : PV w top w.1.toNat ((b ++ [n]) ++ r) := by
          have := (pv_val g).mpr v
          simpa using this
        have pv' := pvc.take g
        have pv'' : PV w top (b.length + 1) (b ++ [n]) := by simpa using pv'
        obtain ⟨_, h0, h2, h3⟩ := (pv_snoc g).mp pv''
        refine ⟨(b ++ [n], usedN (planN w) b ++ diffs (plAt (planN w) b.length).1 b n), next_mem_iff.mpr ⟨n, rfl, low_iff.mpr ⟨h0, fun t ht tf => ?_⟩, h2, (okNext_iff g hl).mpr h3⟩, ?_⟩
        · obtain ⟨⟨t0, t1⟩, tw⟩ := (twm t).mp ht
          have := cn b.length (by omega) (by omega) t t0 tf t1 tw
          rw [at0_last, at0_app (by omega) (by omega)] at this
          exact this
        · rw [← used_snoc g hl]
          refine (tree_mem g (top := top) (fixed := fixed) d (b ++ [n]) (by simp; omega) pv' _).mpr ⟨⟨r, by simp⟩, v, fun p hp hp2 t t0 tf tp tw => cn p (by simp at hp; omega) hp2 t t0 tf tp tw⟩
/-- swapping two twins that stand the wrong way gives a lesser one -/
theorem swap_less {w : Wb} {t p : Int} {c : List Int} (hc : (c.length : Int) = w.1) (ht : 0 ≤ t) (htp : t < p) (hp : p < w.1) (h : at0 c p < at0 c t) : Lx (pull w.1.toNat (tau t p) c) c := by
  have key : ∀ j : Nat, (j : Int) < w.1 → (pull w.1.toNat (tau t p) c).getD j 0 = at0 c (tau t p j) := fun j hj => by
    have := at0_pull (n := w.1.toNat) (f := tau t p) (c := c) (i := (j : Int)) (by omega) (by omega)
    rw [← this]
    rfl
  refine lx_first t.toNat (by rw [pull_len]; omega) (by rw [pull_len]; omega) (fun j hj => ?_) ?_
  · rw [key j (by omega)]
    unfold tau
    rw [if_neg (by omega), if_neg (by omega)]
    rfl
  · rw [key t.toNat (by omega)]
    unfold tau
    rw [if_pos (by omega)]
    exact h
theorem swap_pre {w : Wb} {t p : Int} {b r : List Int} (hc : ((b ++ r).length : Int) = w.1) (ht : (b.length : Int) ≤ t) (htp : t < p) : ∃ r', pull w.1.toNat (tau t p) (b ++ r) = b ++ r' := by
  refine ⟨(pull w.1.toNat (tau t p) (b ++ r)).drop b.length, ?_⟩
  have : (pull w.1.toNat (tau t p) (b ++ r)).take b.length = b := by
    refine List.ext_getElem? fun i => ?_
    by_cases hi : i < b.length
    · rw [List.getElem?_take_of_lt hi]
      rw [List.length_append] at hc
      have := at0_pull (n := w.1.toNat) (f := tau t p) (c := b ++ r) (i := (i : Int)) (by omega) (by omega)
      have e : tau t p i = i := by unfold tau; rw [if_neg (by omega), if_neg (by omega)]
      rw [e, at0_app (by omega) (by omega)] at this
      unfold at0 at this
      rw [List.getD_eq_getElem?_getD, List.getD_eq_getElem?_getD] at this
      have l1 : (i : Int).toNat < (pull w.1.toNat (tau t p) (b ++ r)).length := by rw [pull_len]; omega
      rw [List.getElem?_eq_getElem l1, List.getElem?_eq_getElem (by omega)] at this
      have l2 : i < (pull w.1.toNat (tau t p) (b ++ r)).length := by rw [pull_len]; omega
      rw [List.getElem?_eq_getElem l2, List.getElem?_eq_getElem hi]
      simpa using this
    · rw [List.getElem?_eq_none (by simp; omega), List.getElem?_eq_none (by omega)]
  have e := List.take_append_drop b.length (pull w.1.toNat (tau t p) (b ++ r))
  rw [this] at e
  exact e.symm
theorem swap_ne {w : Wb} {top t p : Int} {c : List Int} (v : Val w top c) (ht : 0 ≤ t) (htp : t < p) (hp : p < w.1) : at0 c t < at0 c p ∨ at0 c p < at0 c t := by
  have hl := v.fit.len
  have : at0 c t ≠ at0 c p := fun e => by have := at0_inj v.fit.nd (by omega) (by omega) e; omega
  omega
/-- those that begin with b -/
def begins (w : Wb) (top : Int) (b : List Int) : List (List Int) := (allN w top).filter fun c => decide (c.take b.length = b)
theorem begins_mem {w : Wb} (g : GoodW w) {top : Int} {b c : List Int} : c ∈ begins w top b ↔ (∃ r, c = b ++ r) ∧ Val w top c := by
  unfold begins
  rw [List.mem_filter, all_mem g, decide_eq_true_eq]
  constructor
  · rintro ⟨h1, h2⟩
    have e := List.take_append_drop b.length c
    rw [h2] at e
    exact ⟨⟨c.drop b.length, e.symm⟩, h1⟩
  · rintro ⟨⟨r, rfl⟩, h⟩
    exact ⟨h, by simp⟩
theorem begins_sorted (w : Wb) (top : Int) (b : List Int) : (begins w top b).Pairwise Lx := (all_sorted w top).filter _
/-- the search tells the first one -/
theorem first_is {w : Wb} (g : GoodW w) {top : Int} {b : List Int} (pv : PV w top b.length b) (hb : b.length ≤ w.1.toNat) : firstFrom w top b = (begins w top b).head? := by
  unfold firstFrom
  rw [firstIn_head]
  refine head_same (tree_sorted _ _ _ _ _ _) (begins_sorted w top b) (fun c hc => ?_) (fun c hc => ?_)
  · have := (tree_mem g (w.1.toNat - b.length) b (by omega) pv c).mp hc
    exact (begins_mem g).mpr ⟨this.1, this.2.1⟩
  · obtain ⟨⟨r, rfl⟩, v⟩ := (begins_mem g).mp (List.mem_of_head? hc)
    refine (tree_mem g (w.1.toNat - b.length) b (by omega) pv _).mpr ⟨⟨r, rfl⟩, v, fun p hp hp2 t t0 tf tp tw => ?_⟩
    rcases swap_ne v t0 tp hp2 with h | h
    · exact h
    · have less := swap_less v.fit.len t0 tp hp2 h
      have hl := v.fit.len
      obtain ⟨r', e⟩ := swap_pre hl tf tp
      have v' := val_swap g ⟨t0, by omega⟩ ⟨by omega, hp2⟩ tw v
      have := head_least (begins_sorted w top b) hc ((begins_mem g).mpr ⟨⟨r', e⟩, v'⟩)
      rcases this with z | z
      · rw [z, Lx, lx_irrefl] at less; cases less
      · rw [Lx, lx_not z] at less; cases less
theorem first_all {w : Wb} (g : GoodW w) (top : Int) : firstFrom w top [] = (allN w top).head? := by
  rw [first_is g ((lev_mem g top 0 []).mp (by unfold lev; simp [ri])) (Nat.zero_le _)]
  unfold begins
  congr 1
  rw [List.filter_eq_self]
  intro c _
  simp
end U
/-! ShT: lists of numberings and optional numberings as data. -/
namespace U
open PySem L2 DL
abbrev eTs (ms : List (List Int)) : PyData := .list (ms.map eT)
theorem pl_eTs (ms : List (List Int)) : pl (eTs ms) = true := by show pl (.list _) = true; unfold pl; exact plAll_map ms fun _ _ => pl_eT _
theorem dp_eTs (ms : List (List Int)) : (eTs ms).depth ≤ 2 := by
  show (PyData.list (ms.map eT)).depth ≤ 2
  have := depthAll_map (f := eT) (n := 1) ms fun x _ => dp_eT x
  simp only [PyData.depth]
  omega
theorem sh_eTs (ms : List (List Int)) : SeqAt.shaped (eTs ms) = true := shaped_of (pl_eTs ms) (Nat.le_trans (dp_eTs ms) (by decide))
theorem sh_nil : SeqAt.shaped (.list []) = true := sh_eTs []
theorem sh_niT : SeqAt.shaped (.tuple []) = true := sh_eT []
theorem sh_none : SeqAt.shaped .none = true := shaped_of (by simp [pl]) (by simp [PyData.depth])
theorem eTs_inj {a b : List (List Int)} (h : eTs a = eTs b) : a = b := map_inj (fun _ _ => eT_inj) (by simpa [eTs] using h)
theorem eqv_eTs (a b : List (List Int)) : PyData.eqv (eTs a) (eTs b) = decide (a = b) := eqv_dec (f := eTs) pl_eTs (fun _ _ => eTs_inj) a b
theorem any_eT (p : List Int) : ∀ ps : List (List Int), ((ps.map eT).any fun z => PyData.eqv z (eT p)) = ps.contains p
  | [] => rfl
  | q :: ps => by
    rw [List.map_cons, List.any_cons, any_eT p ps, eqv_eT, List.contains_cons]
    congr 1
    by_cases h : q = p
    · rw [decide_eq_true h, h, beq_self_eq_true]
    · rw [decide_eq_false h, beq_eq_false_iff_ne.mpr fun z => h z.symm]
theorem pl_optD : ∀ o, pl (optD o) = true
  | none => by simp [optD, pl]
  | some b => pl_eT b
theorem dp_optD : ∀ o, (optD o).depth ≤ 1
  | none => by simp [optD, PyData.depth]
  | some b => dp_eT b
theorem sh_optD (o : Option (List Int)) : SeqAt.shaped (optD o) = true := shaped_of (pl_optD o) (Nat.le_trans (dp_optD o) (by decide))
theorem optD_inj : ∀ {a b : Option (List Int)}, optD a = optD b → a = b
  | none, none, _ => rfl
  | none, some _, h => by cases h
  | some _, none, h => by cases h
  | some a, some b, h => by rw [eT_inj h]
theorem eqv_optD (a b : Option (List Int)) : PyData.eqv (optD a) (optD b) = decide (a = b) := eqv_dec (f := optD) pl_optD (fun _ _ => optD_inj) a b
theorem isNone_optD (o : Option (List Int)) : isNone (optD o) = o.isNone := by cases o <;> rfl
theorem ee_ifp {T : TL} {tt : TT} {ta tb : TE} {ρ : List Sl} {b : Bool} {d : PyData} (h : ET T tt ρ b ρ) (h1 : b = true → EE T ta ρ d ρ) (h2 : b = false → EE T tb ρ d ρ) : EE T (tIf tt ta tb) ρ d ρ := ee_if h h1 h2
theorem eqv_eTs_nil (a : List (List Int)) : PyData.eqv (eTs a) (.list []) = decide (a = []) := eqv_eTs a []
/-- (some[0] if some != [] else None) -/
theorem ee_head {T : TL} {K : PySem.W.Frag} {ρ : List Sl} {i : Nat} {ms : List (List Int)} (h : ρ[i]? = some (.dat (eTs ms))) : EE T (tIf (tTest (tOp (rNeD K) (tVar i) (tLst tNil))) (tOp (rIxL K) (tVar i) (tC (.int 0))) (tC .non)) ρ (optD ms.head?) ρ := by
  refine ee_ifp (et_test (ee_op (ee_var h) (el_lst ea_nil (by simp)).ee (re_neD (sh_eTs ms) sh_nil))) (fun hb => ?_) (fun hb => ?_)
  · cases ms with
    | nil => rw [eqv_eTs_nil] at hb; simp at hb
    | cons c cs => exact ee_op (ee_var h) ee_int (re_ixL (atI_zero (eT c) (cs.map eT)))
  · cases ms with
    | nil => exact ee_non
    | cons c cs => rw [eqv_eTs_nil] at hb; simp at hb
/-! ### what valid ones keep -/
theorem lines_rg {w : Wb} (g : GoodW w) {top : Int} {c : List Int} (v : FitsN w top c) : ∀ x ∈ linesN w c, 1 ≤ x ∧ x ≤ top := fun x hx => by
  unfold linesN at hx
  obtain ⟨q, hq, rfl⟩ := List.mem_map.mp hx
  have l := g.line q hq
  have hl := v.len
  have a := v.rg _ (at0_mem (l := c) (i := q.1) (by omega) (by omega))
  have b := v.rg _ (at0_mem (l := c) (i := q.2) (by omega) (by omega))
  have ne : at0 c q.1 ≠ at0 c q.2 := fun e => by have := at0_inj v.nd (by omega) (by omega) e; omega
  show 1 ≤ iabs (at0 c q.1 - at0 c q.2) ∧ iabs (at0 c q.1 - at0 c q.2) ≤ top
  unfold iabs
  split <;> omega
theorem lines_len (w : Wb) (c : List Int) : (linesN w c).length = w.2.length := by unfold linesN; rw [List.length_map]
theorem val_top {w : Wb} (g : GoodW w) {top : Int} {c : List Int} (v : Val w top c) : (w.2.length : Int) ≤ top ∧ w.1 - 1 ≤ top := by
  have l0 := g.lo
  have ht : 0 ≤ top := by
    have hl := v.fit.len
    have := v.fit.rg _ (at0_mem (l := c) (i := 0) (by omega) (by omega))
    omega
  have h1 := len_le_of_sub (m := ri 1 top.toNat) v.ln fun x hx => mem_ri.mpr (by have := lines_rg g v.fit x hx; omega)
  have h2 := len_le_of_sub (m := ri 0 (top + 1).toNat) v.fit.nd fun x hx => mem_ri.mpr (by have := v.fit.rg x hx; omega)
  rw [ri_len, lines_len] at h1
  rw [ri_len] at h2
  have := v.fit.len
  omega
theorem lines_all {w : Wb} (g : GoodW w) {c : List Int} (v : Val w (topW w) c) : sortI (linesN w c) = ri 1 w.2.length := by
  refine (sortI_is ?_ ((ri_sorted _ _).imp fun h => by omega)).symm
  refine (perm_of_sub v.ln (fun x hx => mem_ri.mpr ?_) (by rw [ri_len, lines_len]; exact Nat.le_refl _)).symm
  have := lines_rg g v.fit x hx
  unfold topW at this
  omega
theorem goodN_iff {w : Wb} {c : List Int} : goodN w c = true ↔ Val w (topW w) c := by
  unfold goodN
  rw [Bool.and_eq_true, val_iff]
end U
namespace U
open PySem L2 DL
theorem flip_fits {w : Wb} {ns : List Int} (h : FitsN w (topW w) ns) : FitsN w (topW w) (flipN w ns) := by
  unfold flipN
  refine ⟨by rw [List.length_map]; exact h.len, fun n hn => ?_, ?_⟩
  · obtain ⟨m, hm, rfl⟩ := List.mem_map.mp hn
    have := h.rg m hm
    omega
  · exact List.pairwise_map.mpr (h.nd.imp fun {a b} z e => z (by omega))
theorem flip_flip (w : Wb) (ns : List Int) : flipN w (flipN w ns) = ns := by
  unfold flipN
  rw [List.map_map]
  conv => rhs; rw [← List.map_id ns]
  refine List.map_congr_left fun n _ => ?_
  show topW w - (topW w - n) = n
  omega
theorem at0_flip {w : Wb} {ns : List Int} {i : Int} (h0 : 0 ≤ i) (h1 : i < ns.length) : at0 (flipN w ns) i = topW w - at0 ns i := by
  unfold at0 flipN
  rw [List.getD_eq_getElem?_getD, List.getElem?_map, List.getD_eq_getElem?_getD, List.getElem?_eq_getElem (by omega)]
  rfl
theorem lines_flip {w : Wb} {ns : List Int} (h : EndsW w ns.length) : linesN w (flipN w ns) = linesN w ns := by
  unfold linesN
  refine List.map_congr_left fun p hp => ?_
  have := h p hp
  rw [at0_flip this.1.1 this.1.2, at0_flip this.2.1 this.2.2]
  unfold iabs
  split <;> split <;> omega
theorem good_flip {w : Wb} {ns : List Int} (g : GoodW w) (h : FitsN w (topW w) ns) : goodN w (flipN w ns) = goodN w ns := by
  unfold goodN differN
  rw [lines_flip (ends_of g h), of_fits h, of_fits (flip_fits h)]
theorem firstIn_len {pl : Pl} {top fixed : Int} : ∀ (d : Nat) (b used c : List Int), firstIn pl top fixed d b used = some c → c.length = pl.length
  | 0, b, used, c, h => by
    have h' : (if b.length = pl.length then some b else none) = some c := h
    split at h'
    · cases h'; assumption
    · cases h'
  | d + 1, b, used, c, h => by
    have h' : (if b.length = pl.length then some b else (nextN pl top b fixed used).findSome? fun x => firstIn pl top fixed d x.1 x.2) = some c := h
    split at h'
    · cases h'; assumption
    · obtain ⟨x, _, hx⟩ := List.exists_of_findSome?_eq_some h'
      exact firstIn_len d x.1 x.2 c hx
def bads09 (n : Int) : List PyData := [.none, .tuple [], .list (rng 0 n.toNat), .tuple (List.replicate n.toNat [PyData.bool true]).flatten]
theorem bads09_ok (w : Wb) (t : Int) (h1 : 1 ≤ w.1) : ∀ d ∈ bads09 w.1, fitsB w t d = false := by
  obtain ⟨m, hm⟩ : ∃ m : Nat, w.1.toNat = m + 1 := ⟨w.1.toNat - 1, by omega⟩
  unfold bads09
  simp only [List.forall_mem_cons]
  refine ⟨rfl, fitsB_len (by simp; omega), rfl, ?_, fun _ h => by cases h⟩
  rw [hm, List.replicate_succ, List.flatten_cons]
  exact fitsB_none rfl
/-- some draws of numbers -/
def mapNums (many top : Int) : Dc → List Int → List (List Int) × Dc
  | D, [] => ([], D)
  | D, _ :: xs => ((anyNums D many top).1.2 :: (mapNums many top (anyNums D many top).2 xs).1, (mapNums many top (anyNums D many top).2 xs).2)
theorem mapNums_len (many top : Int) : ∀ (xs : List Int) (D : Dc), (mapNums many top D xs).1.length = xs.length
  | [], _ => rfl
  | _ :: xs, D => by show (mapNums many top _ xs).1.length + 1 = _; rw [mapNums_len many top xs]; rfl
theorem mapNums_mem {many top : Int} (h0 : 0 ≤ many) (h1 : 0 ≤ top) (h2 : many ≤ 100) : ∀ (xs : List Int) (D : Dc), ∀ ns ∈ (mapNums many top D xs).1, ns.length ≤ 100
  | [], _, _, h => by cases h
  | _ :: xs, D, ns, h => by
    rcases List.mem_cons.mp h with e | h
    · subst e
      have := anyNums_len D h0 h1
      omega
    · exact mapNums_mem h0 h1 h2 xs _ ns h
end U
/-! Th3: tops, begun numberings; while and += in the data logic. -/
namespace U
open PySem L2 DL
/-! ### pairs -/
theorem mem_pairsFrom {n one : Int} {q : Int × Int} : q ∈ pairsFrom n one ↔ q.1 = one ∧ one < q.2 ∧ q.2 < n := by
  unfold pairsFrom
  rw [List.mem_map]
  constructor
  · rintro ⟨o, ho, rfl⟩
    have := mem_ri.mp ho
    exact ⟨rfl, by show one < o; omega, by show o < n; omega⟩
  · rintro ⟨h1, h2, h3⟩
    exact ⟨q.2, mem_ri.mpr (by omega), by rw [← h1]⟩
theorem fold_app_eq {α β : Type} (f : α → List β) : ∀ (xs : List α) (l : List β), xs.foldl (fun l x => l ++ f x) l = l ++ xs.flatMap f
  | [], l => by simp
  | x :: xs, l => by rw [List.foldl_cons, fold_app_eq f xs, List.flatMap_cons, List.append_assoc]
theorem mem_pairsN {n : Int} {q : Int × Int} : q ∈ pairsN n ↔ 0 ≤ q.1 ∧ q.1 < q.2 ∧ q.2 < n := by
  unfold pairsN
  rw [fold_app_eq, List.nil_append, List.mem_flatMap]
  constructor
  · rintro ⟨one, h1, h2⟩
    have := mem_ri.mp h1
    have := mem_pairsFrom.mp h2
    omega
  · rintro ⟨h1, h2, h3⟩
    exact ⟨q.1, mem_ri.mpr (by omega), mem_pairsFrom.mpr ⟨rfl, h2, h3⟩⟩
theorem lines15 {w : Wb} (g : GoodW w) : w.2.length ≤ 15 := by
  have h := len_le_of_sub (m := pairsN w.1) (lines_nodup g) fun q hq => mem_pairsN.mpr (g.line q hq)
  have := (row_ok w.1 (mem6 g.lo g.hi)).2.2.2.2.2.2
  omega
theorem few_of {d : PyData} (h : webB d = true) : (toW d).2.length ≤ 15 := by
  obtain ⟨v, rfl, ok⟩ := webB_iff.mp h
  rw [toW_eW]
  exact lines15 (good_of ok)
theorem small_of {w : Wb} (g : GoodW w) : smallW (eW w) := smallW_eW (by have := lines15 g; omega)
/-! ### a top that is enough -/
def ruler : List Int := [0, 1, 4, 10, 12, 17]
theorem ruler_ok : ∀ n ∈ [(1 : Int), 2, 3, 4, 5, 6], ((pairsN n).map fun p => iabs (at0 (ruler.take n.toNat) p.1 - at0 (ruler.take n.toNat) p.2)).Nodup ∧ (((ruler.take n.toNat).length : Int) = n ∧ (ruler.take n.toNat).Nodup ∧ ∀ x ∈ ruler.take n.toNat, 0 ≤ x ∧ x ≤ 17) := by decide +kernel
theorem nodup_map_sub {α β : Type} [DecidableEq α] {f : α → β} {l m : List α} (hl : l.Nodup) (hs : ∀ x ∈ l, x ∈ m) (h : (m.map f).Nodup) : (l.map f).Nodup := by
  refine nodup_map hl fun x hx y hy e => ?_
  have key : ∀ {m : List α}, (m.map f).Nodup → x ∈ m → y ∈ m → x = y := by
    intro m
    induction m with
    | nil => intro _ h; cases h
    | cons z m ih =>
      intro h hx hy
      rw [List.map_cons, List.nodup_cons] at h
      rcases List.mem_cons.mp hx with rfl | hx' <;> rcases List.mem_cons.mp hy with rfl | hy'
      · rfl
      · exact absurd (List.mem_map.mpr ⟨y, hy', e.symm⟩) h.1
      · exact absurd (List.mem_map.mpr ⟨x, hx', e⟩) h.1
      · exact ih h.2 hx' hy'
  exact key h (hs x hx) (hs y hy)
theorem ruler_val {w : Wb} (g : GoodW w) : Val w 17 (ruler.take w.1.toNat) := by
  obtain ⟨h1, h2, h3, h4⟩ := ruler_ok w.1 (mem6 g.lo g.hi)
  refine ⟨⟨h2, h4, h3⟩, ?_⟩
  unfold linesN
  exact nodup_map_sub (lines_nodup g) (fun q hq => mem_pairsN.mpr (g.line q hq)) h1
theorem val_mono {w : Wb} {t t' : Int} {c : List Int} (h : Val w t c) (ht : t ≤ t') : Val w t' c := ⟨⟨h.fit.len, fun n hn => by have := h.fit.rg n hn; omega, h.fit.nd⟩, h.ln⟩
theorem first_none {w : Wb} (g : GoodW w) {t : Int} : (firstFrom w t []).isNone = true ↔ ∀ c, ¬ Val w t c := by
  rw [first_all g, Option.isNone_iff_eq_none, List.head?_eq_none_iff]
  constructor
  · intro h c v
    have := (all_mem g).mpr v
    rw [h] at this
    cases this
  · intro h
    exact List.eq_nil_iff_forall_not_mem.mpr fun c hc => h c ((all_mem g).mp hc)
theorem first_some {w : Wb} (g : GoodW w) {t : Int} {c : List Int} (h : firstFrom w t [] = some c) : Val w t c := by
  rw [first_all g] at h
  exact (all_mem g).mp (List.mem_of_head? h)
/-- the first one is not behind any other -/
theorem first_le {w : Wb} (g : GoodW w) {t : Int} {c d : List Int} (h : firstFrom w t [] = some c) (v : Val w t d) : HT.lexLt d c = false := by
  rw [first_all g] at h
  rcases head_least (all_sorted w t) h ((all_mem g).mpr v) with e | e
  · rw [e]; exact lx_irrefl _
  · exact lx_not e
/-! ### the least top -/
def leastF (w : Wb) : Nat → Int → Int
  | 0, t => t
  | f + 1, t => if (firstFrom w t []).isNone then leastF w f (t + 1) else t
def startT (w : Wb) : Int := max (topW w) (w.1 - 1)
def leastN (w : Wb) : Int := leastF w 20 (startT w)
theorem leastF_spec {w : Wb} (g : GoodW w) : ∀ (f : Nat) (t : Int), t ≤ 17 → 17 ≤ t + f → (∀ s, s < t → ∀ c, ¬ Val w s c) →
    t ≤ leastF w f t ∧ leastF w f t ≤ 17 ∧ (firstFrom w (leastF w f t) []).isNone = false ∧ (∀ s, s < leastF w f t → ∀ c, ¬ Val w s c) ∧ ∀ s, t ≤ s → s < leastF w f t → (firstFrom w s []).isNone = true
  | 0, t, h1, h2, hb => by
    have : t = 17 := by omega
    subst this
    unfold leastF
    refine ⟨Int.le_refl _, Int.le_refl _, ?_, hb, fun s h3 h4 => by omega⟩
    cases e : (firstFrom w 17 []).isNone with
    | false => rfl
    | true => exact absurd (ruler_val g) ((first_none g).mp e _)
  | f + 1, t, h1, h2, hb => by
    unfold leastF
    cases e : (firstFrom w t []).isNone with
    | false =>
      rw [if_neg (by decide)]
      exact ⟨Int.le_refl _, h1, e, hb, fun s h3 h4 => by omega⟩
    | true =>
      rw [if_pos rfl]
      have nv := (first_none g).mp e
      have h17 : t < 17 := by
        by_cases z : t = 17
        · subst z
          exact absurd (ruler_val g) (nv _)
        · omega
      have ih := leastF_spec g f (t + 1) (by omega) (by omega) fun s hs c v => by
        by_cases z : s = t
        · subst z; exact nv c v
        · exact hb s (by omega) c v
      refine ⟨by omega, ih.2.1, ih.2.2.1, ih.2.2.2.1, fun s h3 h4 => ?_⟩
      by_cases z : s = t
      · subst z; exact e
      · exact ih.2.2.2.2 s (by omega) h4
structure LeastOk (w : Wb) (t : Int) : Prop where
  lo : startT w ≤ t
  hi : t ≤ 17
  has : (firstFrom w t []).isNone = false
  no : ∀ s, s < t → ∀ c, ¬ Val w s c
  step : ∀ s, startT w ≤ s → s < t → (firstFrom w s []).isNone = true
theorem least_ok {w : Wb} (g : GoodW w) : LeastOk w (leastN w) := by
  have h15 := lines15 g
  have := g.hi
  have hs : startT w ≤ 17 := by unfold startT topW; omega
  have h0 : 0 ≤ startT w := by unfold startT topW; omega
  obtain ⟨a, b, c, d, e⟩ := leastF_spec g 20 (startT w) hs (by omega) fun s hs c v => by
    have := val_top g v
    unfold startT topW at hs
    omega
  exact ⟨a, b, c, d, e⟩
theorem least_val {w : Wb} (g : GoodW w) {t : Int} : (∃ c, Val w t c) ↔ leastN w ≤ t := by
  have l := least_ok g
  constructor
  · rintro ⟨c, v⟩
    rcases Int.lt_or_le t (leastN w) with h | h
    · exact absurd v (l.no t h c)
    · exact h
  · intro h
    cases e : firstFrom w (leastN w) [] with
    | none => have := l.has; rw [e] at this; cases this
    | some c => exact ⟨c, val_mono (first_some g e) h⟩
/-! ### begun ones -/
def complN (w : Wb) (b : List Int) : Option (List Int) := if dcount (usedN (planN w) b) < (usedN (planN w) b).length then none else firstFrom w (topW w) b
structure UnlikeN (ns : List Int) (most top : Int) : Prop where
  len : (ns.length : Int) ≤ most
  rg : ∀ n ∈ ns, 0 ≤ n ∧ n ≤ top
  nd : ns.Nodup
theorem unlike_iff {ns : List Int} {m t : Int} : unlikeN ns m t = true ↔ UnlikeN ns m t := by
  unfold unlikeN
  simp only [Bool.and_eq_true, decide_eq_true_eq, List.all_eq_true, dcount_full]
  constructor
  · rintro ⟨h1, h2, h3⟩
    exact ⟨h1, fun n hn => by have := h2 n hn; unfold rangeB at this; simpa using this, h3⟩
  · intro h
    exact ⟨h.len, fun n hn => by unfold rangeB; simpa using h.rg n hn, h.nd⟩
theorem compl_is {w : Wb} (g : GoodW w) {b : List Int} (h : UnlikeN b w.1 (topW w)) : complN w b = (begins w (topW w) b).head? := by
  have hb : b.length ≤ w.1.toNat := by have := h.len; omega
  have up := used_perm g b.length b rfl hb
  unfold complN
  by_cases nd : (usedN (planN w) b).Nodup
  · rw [if_neg (by rw [(dcount_full _).mpr nd]; omega)]
    exact first_is g ⟨rfl, h.rg, h.nd, up.nodup_iff.mp nd⟩ hb
  · have : dcount (usedN (planN w) b) < (usedN (planN w) b).length := by
      have h1 := dcount_le (usedN (planN w) b)
      have h2 : dcount (usedN (planN w) b) ≠ (usedN (planN w) b).length := fun e => nd ((dcount_full _).mp e)
      omega
    rw [if_pos this]
    symm
    rw [List.head?_eq_none_iff]
    refine List.eq_nil_iff_forall_not_mem.mpr fun c hc => ?_
    obtain ⟨⟨r, rfl⟩, v⟩ := (begins_mem g).mp hc
    have := ((pv_val g).mpr v).take g
    exact nd (up.nodup_iff.mpr this.ln)
end U
namespace DL
open PySem L2
open Evl (Ex)
section
variable {T : TL} {X : XK} {tt : TT} {t : TS} {te : TE} {ρ ρ1 : List Sl}
/-- while: k turns through the states st -/
theorem ss_while {st : Nat → List Sl} {k : Nat} (hs : ∀ i, i < k → ET T tt (st i) true (st i) ∧ SS T X t (st i) (.nx (st (i + 1)))) (he : ET T tt (st k) false (st k)) : SS T X (tWhile tt t) (st 0) (.nx (st k)) := fun F W D B H σ E post => by
  refine ⟨fun m σ H => ∃ i B', i ≤ k ∧ m = k - i ∧ Ex B B' ∧ Env T F W B' H σ (st i), ⟨k, 0, B, Nat.zero_le _, rfl, Ex.refl _, E⟩, ?_⟩
  rintro m σ1 H1 ⟨i, B1, hi, rfl, e1, E1⟩
  rcases Nat.lt_or_ge i k with h | h
  · obtain ⟨h1, h2⟩ := hs i h
    refine h1 F W B1 H1 σ1 _ E1 fun B2 H2 e2 E2 => ?_
    rw [if_pos rfl]
    refine ⟨fun σ' H' => ∃ B3, Ex B B3 ∧ Env T F W B3 H' σ' (st (i + 1)), fun σ' H' ⟨B3, e3, E3⟩ => ⟨k - (i + 1), by omega, i + 1, B3, h, rfl, e3, E3⟩, ?_⟩
    exact h2 F W _ B2 H2 σ1 E2 fun σ' B3 H3 e3 E3 => ⟨B3, (e1.trans e2).trans e3, E3⟩
  · have : i = k := by omega
    subst this
    refine he F W B1 H1 σ1 _ E1 fun B2 H2 e2 E2 => ?_
    rw [if_neg (by decide)]
    exact post σ1 B2 H2 (e1.trans e2) E2
theorem ss_aug {i : Nat} {a b : Int} {f : Int → Int → Int} (hi : ρ[i]? = some (.dat (.int a))) (h : EE T te ρ (.int b) ρ1) : SS T X (tAug i te (ipI f)) ρ (.nx (ρ1.set i (.dat (.int (f a b))))) := fun F W D B H σ E k => by
  obtain ⟨v, h1, h2⟩ := E.dat hi
  have e := h2.inv_int
  subst e
  exact ⟨_, h1, h F W B H σ _ E fun u B' H' e' E' q => ⟨a, b, rfl, q.inv_int, k _ B' H' e' (E'.set (.int _))⟩⟩
end
end DL
/-! LawH: what the laws' own rows say again and again. -/
namespace DL
open PySem L2 U
open Evl (Ex)
/-- ends in one of several states -/
def SN (T : TL) (X : XK) (t : TS) (ρ : List Sl) (J : List Sl → Prop) : Prop := ∀ F W D B H σ, Env T F W B H σ ρ → (∀ ρ', J ρ' → Post T X F W D B (.nx ρ')) → t D σ H
section
variable {T : TL} {X : XK} {t u : TS} {tt : TT} {te : TE} {g : TG} {K : PySem.W.Frag} {ρ ρ1 ρ2 : List Sl} {o : Out} {J J' : List Sl → Prop} {b : Bool}
theorem sn_of (h : SS T X t ρ (.nx ρ1)) (j : J ρ1) : SN T X t ρ J := fun F W D B H σ E k => h F W D B H σ E (k _ j)
theorem sn_nx (h : SS T X t ρ (.nx ρ1)) (w : Weaker ρ1 ρ2) (j : J ρ2) : SN T X t ρ J := sn_of (ss_forget h w) j
theorem sn_seq (h : SS T X t ρ (.nx ρ1)) (h2 : SN T X u ρ1 J) : SN T X (tSeq t u) ρ J := fun F W D B H σ E k =>
  h F W { D with nx := u D } B H σ E fun σ' B' H' e' E' => h2 F W D B' H' σ' E' fun ρ' j => (k ρ' j).le e'
theorem sn_seqN (h : SN T X t ρ J) (h2 : ∀ ρ', J ρ' → SN T X u ρ' J') : SN T X (tSeq t u) ρ J' := fun F W D B H σ E k =>
  h F W { D with nx := u D } B H σ E fun ρ' j σ' B' H' e' E' => h2 ρ' j F W D B' H' σ' E' fun ρ'' j' => (k ρ'' j').le e'
theorem ss_seqN (h : SN T X t ρ J) (h2 : ∀ ρ', J ρ' → SS T X u ρ' o) : SS T X (tSeq t u) ρ o := fun F W D B H σ E k =>
  h F W { D with nx := u D } B H σ E fun ρ' j σ' B' H' e' E' => h2 ρ' j F W D B' H' σ' E' (k.le e')
theorem ss_of_sn (h : SN T X t ρ J) (h2 : ∀ ρ', J ρ' → ρ' = ρ1) : SS T X t ρ (.nx ρ1) := fun F W D B H σ E k =>
  h F W D B H σ E fun ρ' j => by rw [h2 ρ' j]; exact k
theorem ss_of_snW (h : SN T X t ρ J) (h2 : ∀ ρ', J ρ' → Weaker ρ' ρ1) : SS T X t ρ (.nx ρ1) := fun F W D B H σ E k =>
  h F W D B H σ E fun ρ' j σ' B' H' e' E' => k σ' B' H' e' (E'.weak (h2 ρ' j))
theorem sn_if (h : ET T tt ρ b ρ1) (h1 : b = true → SN T X t ρ1 J) (h2 : b = false → SN T X u ρ1 J) : SN T X (tIfS tt t u) ρ J := fun F W D B H σ E k =>
  h F W B H σ _ E fun B' H' e' E' => by
    cases b with
    | true => rw [if_pos rfl]; exact h1 rfl F W D B' H' σ E' fun ρ' j => (k ρ' j).le e'
    | false => rw [if_neg Bool.false_ne_true]; exact h2 rfl F W D B' H' σ E' fun ρ' j => (k ρ' j).le e'
theorem sn_imp (h : SN T X t ρ J) (h2 : ∀ ρ', J ρ' → J' ρ') : SN T X t ρ J' := fun F W D B H σ E k => h F W D B H σ E fun ρ' j => k ρ' (h2 ρ' j)
/-- one turn -/
def TurnN (T : TL) (X : XK) (g : TG) (t : TS) (d : PyData) (J : List Sl → Prop) : Prop := ∀ ρ, J ρ → ∃ ρ', EG T g d ρ ρ' ∧ SN T X t ρ' J
theorem turnN_step {F : Hp} {W : Addr → Prop} {D : Ends} {B1 : Hp} (k : ∀ ρ', J ρ' → Post T X F W D B1 (.nx ρ')) {σ : Sigma} {H : Hp} {v : V} {d : PyData} {B' : Hp} {ρi : List Sl} (e : Ex B1 B') (E : Env T F W B' H σ ρi) (q : Dt B' v d) (j : J ρi) (h : TurnN T X g t d J) :
    g v σ H fun σ2 H2 => t { D with nx := fun σ H => ∃ B' ρi, Ex B1 B' ∧ Env T F W B' H σ ρi ∧ J ρi, ct := fun σ H => ∃ B' ρi, Ex B1 B' ∧ Env T F W B' H σ ρi ∧ J ρi, bk := D.nx } σ2 H2 := by
  obtain ⟨ρ', hg, hs⟩ := h ρi j
  exact hg F W B' H σ v _ E q fun σ2 E2 => hs F W _ B' H σ2 E2 fun ρ'' j' σ' B2 H2 e2 E3 => ⟨B2, _, e.trans e2, E3, j'⟩
theorem turnN_end {F : Hp} {W : Addr → Prop} {D : Ends} {B1 : Hp} (k : ∀ ρ', J ρ' → Post T X F W D B1 (.nx ρ')) {σ : Sigma} {H : Hp} (h : ∃ B' ρi, Ex B1 B' ∧ Env T F W B' H σ ρi ∧ J ρi) : D.nx σ H := by
  obtain ⟨B', ρi, e, E, j⟩ := h
  exact k ρi j σ B' H e E
theorem sn_forR1 {ta : TA} {n : Int} (h : EA T ta ρ [.int n] ρ1) (hn : -100000 ≤ n ∧ n ≤ 100000) (h0 : J ρ1) (hb : ∀ x ∈ ri 0 n.toNat, TurnN T X g t (.int x) J) : SN T X (tFor (iRng1 ta) g t) ρ J := fun F W D B H σ E k =>
  h F W B H σ _ E fun vs B1 H1 e1 E1 q1 => by
    have k1 := fun ρ' j => (k ρ' j).le e1
    have ev : vs = [.int n] := by cases q1 with | cons q1 q2 => cases q2; rw [q1.inv_int]
    refine ⟨n, ev, by omega, by omega, for_range (lo := 0) (n := n.toNat) (fun i σ H => ∃ B' ρi, Ex B1 B' ∧ Env T F W B' H σ ρi ∧ J ρi) ⟨B1, ρ1, Ex.refl _, E1, h0⟩ (fun i σ H hi ⟨B', ρi, e, E, j⟩ => ?_) (fun σ H h => turnN_end k1 h)⟩
    exact turnN_step k1 e E (.int _) j (hb _ (mem_ri.mpr (by omega)))
theorem sn_forL {ds : List PyData} (h : EE T te ρ (.list ds) ρ1) (h0 : J ρ1) (hb : ∀ d ∈ ds, TurnN T X g t d J) : SN T X (tFor (iList K te) g t) ρ J := fun F W D B H σ E k =>
  h F W B H σ _ E fun v B1 H1 e1 E1 q1 => by
    obtain ⟨a, xs, f1, f2, q⟩ := q1.inv_lst
    have k1 := fun ρ' j => (k ρ' j).le e1
    refine ⟨a, f1, ⟨xs, SqL.of (E1.bh _ _ f2)⟩, for_list (xs := xs) (fun i σ H => ∃ B' ρi, Ex B1 B' ∧ Env T F W B' H σ ρi ∧ J ρi) ⟨B1, ρ1, Ex.refl _, E1, h0⟩ (fun i σ H _ ⟨B', ρi, e, E, _⟩ => SqL.of (E.bh _ _ (e _ _ f2))) (fun i x σ H hx ⟨B', ρi, e, E, j⟩ => ?_) (fun σ H h => turnN_end k1 h)⟩
    obtain ⟨d, hd, qd⟩ := q.getV hx
    exact turnN_step k1 e E (qd.mono e) j (hb d (List.mem_of_getElem? hd))
theorem sn_forT {ds : List PyData} (h : EE T te ρ (.tuple ds) ρ1) (h0 : J ρ1) (hb : ∀ d ∈ ds, TurnN T X g t d J) : SN T X (tFor (iTup K te) g t) ρ J := fun F W D B H σ E k =>
  h F W B H σ _ E fun v B1 H1 e1 E1 q1 => by
    obtain ⟨a, xs, f1, f2, q⟩ := q1.inv_tup
    have k1 := fun ρ' j => (k ρ' j).le e1
    refine ⟨a, f1, ⟨xs, SqT.of (E1.bh _ _ f2)⟩, for_tup (xs := xs) (fun i σ H => ∃ B' ρi, Ex B1 B' ∧ Env T F W B' H σ ρi ∧ J ρi) ⟨B1, ρ1, Ex.refl _, E1, h0⟩ (fun i σ H _ ⟨B', ρi, e, E, _⟩ => SqT.of (E.bh _ _ (e _ _ f2))) (fun i x σ H hx ⟨B', ρi, e, E, j⟩ => ?_) (fun σ H h => turnN_end k1 h)⟩
    obtain ⟨d, hd, qd⟩ := q.getV hx
    exact turnN_step k1 e E (qd.mono e) j (hb d (List.mem_of_getElem? hd))
/-- if ..: return False, the test false -/
theorem ss_no (h : ET T tt ρ false ρ1) : SS T X (tIfS tt t tNext) ρ (.nx ρ1) := ss_if h (fun h => by cases h) (fun _ => ss_next)
/-- the same, and on -/
theorem ss_chk (h : ET T tt ρ false ρ) (h2 : SS T X u ρ o) : SS T X (tSeq (tIfS tt t tNext) u) ρ o := ss_seq (ss_no h) h2
theorem Weaker.unset {j : Nat} {s : Sl} (h : ρ[j]? = some .no) : Weaker (ρ.set j s) ρ := ⟨by rw [List.length_set], fun i s' hs => by
  by_cases e : j = i
  · subst e; rw [h] at hs; cases hs; exact .inl rfl
  · right; rw [List.getElem?_set_ne e]; exact hs⟩
theorem err_ok : ∀ x ∈ kinds, (!PyData.eqv (errD x) (errD x)) = false ∧ SeqAt.shaped (errD x) = true := by decide +kernel
/-- _law_told(lambda: ..) != ("error", x) -/
theorem et_told {xa : Str → Addr} {x : Str} {tl : XK → TE} (hT : T ≠ []) (tk : Tt K xa x) (h : ER T tl ρ (.ex (xa x))) : ET T (tTest (tOp (rNeD K) (tTold K xa T tl) (tTup (tCons (tC (.str "error")) (tCons (tC (.str x)) tNil))))) ρ false ρ :=
  ET.is (et_test (ee_op (ee_toldX hT tk h) (ee_tup (ea_2 ee_str ee_str) (by simp)) (re_neD (err_ok x tk.mem).2 (err_ok x tk.mem).2))) (err_ok x tk.mem).1
/-- for bad in ..: one that is never told otherwise -/
theorem ss_bads {j : Nat} {ds : List PyData} (h : EE T te ρ (.list ds) ρ) (hj : ρ[j]? = some .no) (hb : ∀ d ∈ ds, SS T X t (ρ.set j (.dat d)) (.nx (ρ.set j (.dat d)))) : SS T X (tFor (iList K te) (gName j) t) ρ (.nx ρ) :=
  ss_forL h (ForR.all (st := fun _ => ρ) fun i d hd => ⟨ρ.set j (.dat d), eg_name, ss_forget (hb d (List.mem_of_getElem? hd)) (Weaker.unset hj)⟩)
theorem ea_7 {t1 t2 t3 t4 t5 t6 t7 : TE} {d1 d2 d3 d4 d5 d6 d7 : PyData} (h1 : EE T t1 ρ d1 ρ) (h2 : EE T t2 ρ d2 ρ) (h3 : EE T t3 ρ d3 ρ) (h4 : EE T t4 ρ d4 ρ) (h5 : EE T t5 ρ d5 ρ) (h6 : EE T t6 ρ d6 ρ) (h7 : EE T t7 ρ d7 ρ) : EA T (tCons t1 (tCons t2 (tCons t3 (tCons t4 (tCons t5 (tCons t6 (tCons t7 tNil))))))) ρ [d1, d2, d3, d4, d5, d6, d7] ρ := ea_cons h1 (ea_6 h2 h3 h4 h5 h6 h7)
theorem ea_8 {t1 t2 t3 t4 t5 t6 t7 t8 : TE} {d1 d2 d3 d4 d5 d6 d7 d8 : PyData} (h1 : EE T t1 ρ d1 ρ) (h2 : EE T t2 ρ d2 ρ) (h3 : EE T t3 ρ d3 ρ) (h4 : EE T t4 ρ d4 ρ) (h5 : EE T t5 ρ d5 ρ) (h6 : EE T t6 ρ d6 ρ) (h7 : EE T t7 ρ d7 ρ) (h8 : EE T t8 ρ d8 ρ) : EA T (tCons t1 (tCons t2 (tCons t3 (tCons t4 (tCons t5 (tCons t6 (tCons t7 (tCons t8 tNil)))))))) ρ [d1, d2, d3, d4, d5, d6, d7, d8] ρ := ea_cons h1 (ea_7 h2 h3 h4 h5 h6 h7 h8)
/-- len of a list of encoded things -/
theorem ee_lenL {α : Type} {enc : α → PyData} {xs : List α} (h : EE T te ρ (.list (xs.map enc)) ρ1) : EE T (tCB (rLenQ K) (tCons te tNil)) ρ (.int xs.length) ρ1 := by
  have := ee_cb (r := rLenQ K) (ea_1 h) rb_lenL
  rw [List.length_map] at this
  exact this
theorem ee_lenT {α : Type} {enc : α → PyData} {xs : List α} (h : EE T te ρ (.tuple (xs.map enc)) ρ1) : EE T (tCB (rLenQ K) (tCons te tNil)) ρ (.int xs.length) ρ1 := by
  have := ee_cb (r := rLenQ K) (ea_1 h) rb_lenT
  rw [List.length_map] at this
  exact this
/-- web[0], web[1], len(web[1]) -/
theorem ee_w0 {v : Wb} {i : Nat} (h : ρ[i]? = some (.dat (eW v))) : EE T (tOp (rIxT K) (tVar i) (tC (.int 0))) ρ (.int v.1) ρ := ee_op (ee_var h) ee_int (re_ixT rfl)
theorem ee_w1 {v : Wb} {i : Nat} (h : ρ[i]? = some (.dat (eW v))) : EE T (tOp (rIxT K) (tVar i) (tC (.int 1))) ρ (ePs v.2) ρ := ee_op (ee_var h) ee_int (re_ixT rfl)
theorem ee_wlen {v : Wb} {i : Nat} (h : ρ[i]? = some (.dat (eW v))) : EE T (tCB (rLenQ K) (tCons (tOp (rIxT K) (tVar i) (tC (.int 1))) tNil)) ρ (.int (topW v)) ρ := ee_lenT (enc := eP) (ee_w1 h)
/-- t[:n] -/
theorem ee_cutTo {ns : List Int} {n : Int} {tn : TE} (h : EE T te ρ (eT ns) ρ1) (h2 : EE T tn ρ1 (.int n) ρ2) (h0 : 0 ≤ n) : EE T (tSl (rSlA K) te tNoPart (tPart tn)) ρ (eT (ns.take n.toNat)) ρ2 := by
  have := ee_slT (K := K) h eo_none (eo_some h2)
  rw [cut_to _ h0, ← List.map_take] at this
  exact this
end
end DL
namespace U
open PySem L2 DL
/-! ### the law's draws of numbers -/
theorem filter_perm {l : List Int} {x : Int} (nd : l.Nodup) (h : x ∈ l) : (x :: l.filter fun y => !decide (y = x)).Perm l := by
  refine perm_of_sub (List.nodup_cons.mpr ⟨by simp, nd.filter _⟩) (fun y hy => ?_) ?_
  · rcases List.mem_cons.mp hy with rfl | hy
    · exact h
    · exact (List.mem_filter.mp hy).1
  · rw [List.length_cons, filter_ne_len nd h]; exact Nat.le_refl _
theorem nums_perm : ∀ (xs : List Int) (s : Ns), s.1.1.Nodup → xs.length ≤ s.1.1.length → ((numsD xs s).1.2 ++ (numsD xs s).1.1).Perm (s.1.2 ++ s.1.1)
  | [], s, nd, _ => List.Perm.refl _
  | x :: xs, s, nd, h => by
    have hl : 0 < s.1.1.length := by simp at h; omega
    have hm := at0_mem (l := s.1.1) (rollV_lo s.2 (m := (s.1.1.length : Int)) (by omega)) (rollV_hi s.2 (by omega))
    have e := filter_ne_len nd hm
    have ih := nums_perm xs (numStep s) (nd.filter _) (by show xs.length ≤ (List.filter _ _).length; simp at h; omega)
    refine ih.trans ?_
    unfold numStep
    dsimp only
    rw [List.append_assoc, List.singleton_append]
    exact (filter_perm nd hm).append_left _
theorem anyNums_ok (D : Dc) {many top : Int} (h0 : 0 ≤ many) (h1 : 0 ≤ top) : ((anyNums D many top).1.2.length : Int) = min many (top + 1) ∧ (anyNums D many top).1.2.Nodup ∧ ∀ x ∈ (anyNums D many top).1.2, 0 ≤ x ∧ x ≤ top := by
  have hp := nums_perm (ri 0 (min many (top + 1)).toNat) ((ri 0 (top + 1).toNat, []), D) (ri_nodup _ _) (by rw [ri_len]; show _ ≤ (ri 0 (top + 1).toNat).length; rw [ri_len]; omega)
  have hp : ((anyNums D many top).1.2 ++ (anyNums D many top).1.1).Perm (ri 0 (top + 1).toNat) := hp
  refine ⟨anyNums_len D h0 h1, (List.nodup_append.mp (hp.nodup_iff.mpr (ri_nodup _ _))).1, fun x hx => ?_⟩
  have := mem_ri.mp (hp.mem_iff.mp (List.mem_append_left _ hx))
  omega
/-- all places get names: a renaming -/
theorem anyNums_full (D : Dc) {n : Int} (h : 1 ≤ n) : FitsN (n, []) (n - 1) (anyNums D n (n - 1)).1.2 := by
  obtain ⟨a, b, c⟩ := anyNums_ok D (many := n) (top := n - 1) (by omega) (by omega)
  exact ⟨by rw [a]; show min n (n - 1 + 1) = n; omega, c, b⟩
end U
/-! Ob2: the rules for objects in a given K; making; len. -/
namespace DL
open PySem L2 PyProof.Rows
open Evl (Ex)
section
variable {X : Cx} {K : PySem.W.Frag} {o e value : Expr} {f m : Str} {pos pos' apos : Pos} {ta tv : TE} {es : List Expr} {t : TA} {k : Nat} {C : Addr} {ps : List Str} {sp : Sp} {E : XK}
theorem fldK (h : X.K = K) (he : PE X e ta) (hb : attributeBase e f X.env (eval e X.env) = eval e X.env := by rfl) : PE X (.Attribute e f pos) (tFld K ta f) := by subst h; exact pe_fld he hb
theorem sfldK (h : X.K = K) (ha : PE X o ta) (hv : PE X value tv) (hs : swapsWith value (some (.Attribute o f pos')) pos.line X.env = pure false := by rfl) : PS X (.Assign [.Attribute o f pos'] value pos) (sFld K ta tv f) := by subst h; exact ps_fld ha hv hs
theorem calMK {pl : Sem Bool} (h : X.K = K) (c : CalM X.prog X.w K X.mg X.base k C m ps sp) (cl : Cls K C) (hr : Room k X.A) (ho : PE X o ta) (ha : PA X (e :: es) t)
    (hst : starEach (e :: es) X.env = (false, eval e X.env) :: starEach es X.env := by rfl) (hpl : (backTo pos (starEach es X.env)).any (·.1) = false := by rfl)
    (ht : eval (.Call (.Attribute o m apos) (e :: es) [] pos) X.env = (do
      let ov ← eval o X.env
      standAt apos.atName
      let (f, first) ← holding [ov] (getMethod ov m pl)
      callWith pos f first (backTo pos (starEach (e :: es) X.env)) (backToKw pos (keywordEach [] X.env))) := by rfl) :
    PE X (.Call (.Attribute o m apos) (e :: es) [] pos) (tMeth C m sp [] E0 ta t) := by
  subst h
  obtain ⟨g, fd, F, hm, hb⟩ := c.ex
  exact pe_meth (pl := pl) ho cl hm F hr hb .nil passN ha hst hpl ht
theorem calMKx {pl : Sem Bool} (h : X.K = K) (c : CalM X.prog X.w K X.mg X.base k C m ps sp) (cl : Cls K C) (hr : Room k X.A) (tk : L2N.Takes X (fun cls d _ H => E cls d H)) (ho : PE X o ta) (ha : PA X (e :: es) t)
    (hst : starEach (e :: es) X.env = (false, eval e X.env) :: starEach es X.env := by rfl) (hpl : (backTo pos (starEach es X.env)).any (·.1) = false := by rfl)
    (ht : eval (.Call (.Attribute o m apos) (e :: es) [] pos) X.env = (do
      let ov ← eval o X.env
      standAt apos.atName
      let (f, first) ← holding [ov] (getMethod ov m pl)
      callWith pos f first (backTo pos (starEach (e :: es) X.env)) (backToKw pos (keywordEach [] X.env))) := by rfl) :
    PE X (.Call (.Attribute o m apos) (e :: es) [] pos) (tMeth C m sp [] E ta t) := by
  subst h
  obtain ⟨g, fd, F, hm, hb⟩ := c.ex
  exact pe_meth (pl := pl) ho cl hm F hr hb .nil (L2N.passes_call tk fun _ _ _ _ h => h) ha hst hpl ht
theorem calMK0 {pl : Sem Bool} (h : X.K = K) (c : CalM X.prog X.w K X.mg X.base k C m ps sp) (cl : Cls K C) (hr : Room k X.A) (ho : PE X o ta)
    (ht : eval (.Call (.Attribute o m apos) [] [] pos) X.env = (do
      let ov ← eval o X.env
      standAt apos.atName
      let (f, first) ← holding [ov] (getMethod ov m pl)
      callWith pos f first (backTo pos (starEach [] X.env)) (backToKw pos (keywordEach [] X.env))) := by rfl) :
    PE X (.Call (.Attribute o m apos) [] [] pos) (tMeth C m sp [] E0 ta tNil) := by
  subst h
  obtain ⟨g, fd, F, hm, hb⟩ := c.ex
  exact pe_meth0 (pl := pl) ho cl hm F hr hb .nil passN ht
theorem calMK0x {pl : Sem Bool} (h : X.K = K) (c : CalM X.prog X.w K X.mg X.base k C m ps sp) (cl : Cls K C) (hr : Room k X.A) (tk : L2N.Takes X (fun cls d _ H => E cls d H)) (ho : PE X o ta)
    (ht : eval (.Call (.Attribute o m apos) [] [] pos) X.env = (do
      let ov ← eval o X.env
      standAt apos.atName
      let (f, first) ← holding [ov] (getMethod ov m pl)
      callWith pos f first (backTo pos (starEach [] X.env)) (backToKw pos (keywordEach [] X.env))) := by rfl) :
    PE X (.Call (.Attribute o m apos) [] [] pos) (tMeth C m sp [] E ta tNil) := by
  subst h
  obtain ⟨g, fd, F, hm, hb⟩ := c.ex
  exact pe_meth0 (pl := pl) ho cl hm F hr hb .nil (L2N.passes_call tk fun _ _ _ _ h => h) ht
/-! ### len -/
/-- len(o), o of a class with __len__ -/
def rLenM (C : Addr) (sp : Sp) : List V → Hp → VK → Prop := fun xs H Q => ∃ a dx fs, xs = [.ref a] ∧ H a = some (.ins C dx fs) ∧ sp [.ref a] H (fun v H2 => ∃ n : Int, v = .int n ∧ (0 ≤ n ∧ n < 2 ^ 63) ∧ Q (.int n) H2) E0
theorem cr_lenM (c : CalM X.prog X.w X.K X.mg X.base k C "__len__" ps sp) (hr : Room (k + 1) X.A) : CallR X (.builtin "len") (rLenM C sp) := by
  intro pins s σ H vs us Q I r h
  obtain ⟨a, dx, fs, rfl, ha, q⟩ := h
  rw [Vals.ref1 r]
  obtain ⟨f, fd, F, hm, hb⟩ := c.ex
  obtain ⟨mA, O, _, _, _, _⟩ := ins_get I.hok ha
  obtain ⟨od, J, hl⟩ := O.look
  have hlen : [Value.ref a].length = ps.length := F.len _ _ _ _ q
  refine Calls.call_function_entry kind_len plain_len entry_len (args_len1 _) ?_
  unfold Builtin.«len»
  refine wpAny_bind (m := oneArg "len" _) (wpAny_pure ?_)
  refine wpAny_bind (m := callSpecial? (.ref a) (Str.ofString "__len__")) (PySem.W.special_fn I.kIn J hm.at_ (beq_iff_eq.mp hm.fn) ?_)
  have bn := hb s [.ref a] I.kIn (by rw [List.append_nil]; exact hlen)
  rw [List.append_nil] at bn
  refine wpAny_call (codeAny_mono (F.run X.A.in1 X.stack s H ⟨[.ref a], []⟩ [.ref a] [.ref a] _ E0 hr.in1 I.env0.in1 bn (.cons rfl .nil) q) fun r s' hq => ?_)
  cases r with
  | error e =>
    obtain ⟨_, _, _, _, _, _, _, _, _, _, _, _, z⟩ := (show L2N.CX X.prog X.w _ _ _ E0 e s' from hq)
    exact z.elim
  | ok fl =>
    cases fl with
    | ret u =>
      obtain ⟨v, H', I', rv, n, e, ⟨h0, h1⟩, hQ⟩ := I.after hq
      subst e
      obtain ⟨tk, rfl⟩ := rv
      refine wpAny_bind (wpAny_holding (wpAny_pure ?_))
      refine wpAny_bind (wpAny_letGo ?_)
      show wpAny _ _ (if n < 0 then _ else _) _ _ _
      rw [if_neg (by omega)]
      show wpAny _ _ (if n ≥ 2 ^ 63 then _ else _) _ _ _
      rw [if_neg (by omega)]
      exact wpAny_bind (wpAny_mkInt (wpAny_pure ⟨_, rfl, ⟨.int n, H', I'.tok _, ⟨_, rfl⟩, hQ⟩⟩))
    | next => exact False.elim hq
    | brk => exact False.elim hq
    | cont => exact False.elim hq
theorem lenMK (h : X.K = K) (c : CalM X.prog X.w K X.mg X.base k C "__len__" ps sp) (hr : Room (k + 1) X.A) : CallR X (.builtin "len") (rLenM C sp) := by subst h; exact cr_lenM c hr
/-! ### making -/
/-- a class that may be made -/
structure MkC (P : Program) (w : World) (K : PySem.W.Frag) (mg : Str → Option Value) (base : Heap) (k : Nat) (x : Str) (C : Addr) (ps : List Str) (sp : Sp) : Prop where
  c : CalM P w K mg base k C "__init__" ps sp
  ms : PySem.W.makesIn K C = true
  kp : PySem.W.keepIn K (.ref C) = true
  g : mg x = some (.ref C)
theorem makeK {x : Str} {p : Pos} (h : X.K = K) (c : MkC X.prog X.w K X.mg X.base k x C ps sp) (hr : Room (k + 1) X.A) (hg : Gl X x) (ha : PA X (e :: es) t)
    (hdb : (x == ("__debug__" : Str)) = false := by decide) (he : starEach (e :: es) X.env = (false, eval e X.env) :: starEach es X.env := by rfl) (hpl : (backTo pos (starEach es X.env)).any (·.1) = false := by rfl) :
    PE X (.Call (.Name x p) (e :: es) [] pos) (tMake C sp [] E0 t) := by
  subst h
  obtain ⟨g, fd, F, hm, hb⟩ := c.c.ex
  exact pe_make ⟨c.ms, hm.at_, hm.fn, c.kp⟩ F hr hg c.g hb .nil passN ha hdb he hpl
end
/-- a new object, no name's yet -/
def EM (T : TL) (te : TE) (ρ : List Sl) (C : Addr) (st : Fs) (ρ' : List Sl) : Prop :=
  ∀ F W B H σ (Q : VK), Env T F W B H σ ρ → (∀ p dx fs B' H', Ex B B' → Env T F W B' H' σ ρ' → B' p = none → F p = none → H' p = some (.ins C dx fs) → DtFs B' fs st → (∀ (i : Nat) C' st', ρ'[i]? ≠ some (.obj p C' st')) → Q (.ref p) H') → te σ H Q
section
variable {T : TL} {E X : XK} {ρ ρ1 ρ2 ρ3 : List Sl} {d : PyData} {ds : List PyData} {ta : TA} {te : TE} {R : Fs → List PyData → Res → Fs → Prop} {i : Nat} {p C : Addr} {m : Str} {st0 st st' : Fs} {K : PySem.W.Frag}
theorem em_make (h : EA T ta ρ ds ρ1) (hR : R [] ds (.ok .none) st) : EM T (tMake C (spM C R) [] E ta) ρ C st ρ1 := fun F W B H σ Q Ev k =>
  h F W B H σ _ Ev fun us B1 H1 e1 E1 q1 => fun x dx hx hdx hne => by
    have hB := Evl.fresh_back E1.bh hx
    have hF := Evl.fresh_back E1.fh hx
    have hdx' : (upd H1 dx (.own x)) x = none := by rw [upd_ne (Ne.symm hne)]; exact hx
    have hex : Ex H1 (upd (upd H1 dx (.own x)) x (.ins C dx [])) := (Ex.new hdx).trans (Ex.new hdx')
    show spM C R (V.ref x :: (us ++ [])) _ _ E
    rw [List.append_nil]
    refine ⟨B1, x, dx, us, [], [], ds, .ok .none, st, rfl, E1.bh.trans hex, E1.bt, hB, upd_same, ⟨rfl, .nil⟩, q1, hR, fun v B' H' dx' gs g hz q q' => ⟨q'.inv_non, ?_⟩⟩
    have ne : ∀ a o, H1 a = some o → a ≠ x := fun a o ha => ne_of_none ha hx
    have gr : Grow B1 H1 B' H' := ⟨g.bb, g.bh, fun a o ha => g.hh a o (ne a o ha) (hex a o ha), fun a h1 h2 => g.nb a h1 (fun z => by
      cases e : H1 a with
      | none => exact h2 e
      | some o => rw [hex a o e] at z; cases z), g.bt⟩
    exact k x dx' gs B' H' (e1.trans g.bb) (E1.grow gr) (g.nb x hB (by rw [upd_same]; exact fun z => by cases z)) hF hz q fun i C' st' hi => by
      obtain ⟨_, _, _, _, _, e3, _⟩ := E1.obj hi
      rw [hx] at e3
      cases e3
theorem Env.setObj {F : Hp} {W : Addr → Prop} {B H : Hp} {σ : Sigma} {dx : Addr} {fs : List (Str × V)} (E : Env T F W B H σ ρ) (h1 : B p = none) (h2 : F p = none) (h3 : H p = some (.ins C dx fs)) (h4 : DtFs B fs st) : Env T F W B H (σ.set i (some (.ref p))) (ρ.set i (.obj p C st)) where
  fh := E.fh
  bh := E.bh
  wf := E.wf
  wb := E.wb
  tb := E.tb
  ft := E.ft
  bt := E.bt
  ln := by rw [List.length_set, List.length_set]; exact E.ln
  sl := fun j s hs => by
    by_cases hj : i = j
    · subst hj
      by_cases hl : i < ρ.length
      · rw [List.getElem?_set_self hl] at hs
        cases hs
        exact ⟨some (.ref p), List.getElem?_set_self (by rw [E.ln]; exact hl), rfl, h1, h2, dx, fs, h3, h4⟩
      · rw [List.getElem?_eq_none (by simpa using hl)] at hs; cases hs
    · rw [List.getElem?_set_ne hj] at hs ⊢
      exact E.sl j s hs
  ne := fun a b p' q q' ds es hab ha hb => by
    have na : i ≠ a := fun z => by
      subst z
      by_cases hl : i < ρ.length
      · rw [List.getElem?_set_self hl] at ha; cases ha
      · rw [List.getElem?_eq_none (by simpa using hl)] at ha; cases ha
    have nb : i ≠ b := fun z => by
      subst z
      by_cases hl : i < ρ.length
      · rw [List.getElem?_set_self hl] at hb; cases hb
      · rw [List.getElem?_eq_none (by simpa using hl)] at hb; cases hb
    rw [List.getElem?_set_ne na] at ha
    rw [List.getElem?_set_ne nb] at hb
    rw [List.getElem?_set_ne na, List.getElem?_set_ne nb]
    exact E.ne a b p' q q' ds es hab ha hb
theorem DtFs.grow {B B' : Hp} {fs : List (Str × V)} (h : DtFs B fs st) (e : Ex B B') : DtFs B' fs st := h.mono e
/-- the object at p put among the frame's things -/
theorem Env.hideM {F : Hp} {W : Addr → Prop} {B H : Hp} {σ : Sigma} {o : HO} (E : Env T F W B H σ ρ) (h1 : B p = none) (h3 : H p = some o) (ho : (∀ ps, o ≠ .tbl ps) ∧ ∀ xs, o ≠ .lst xs) (hn : ∀ (i : Nat) C' st', ρ[i]? ≠ some (.obj p C' st')) : Env T (upd F p o) (fun a => W a ∨ a = p) B H σ ρ where
  fh := fun a u ha => by
    by_cases z : a = p
    · subst z; rw [upd_same] at ha; rw [h3]; exact ha
    · rw [upd_ne z] at ha; exact E.fh a u ha
  bh := E.bh
  wf := fun a ha => by
    by_cases z : a = p
    · subst z; rw [upd_same]; exact fun z => by cases z
    · rw [upd_ne z]; exact E.wf a (ha.resolve_right z)
  wb := fun a ha => by
    rcases ha with h | h
    · exact E.wb a h
    · rw [h]; exact h1
  tb := E.tb
  ft := fun hT a ps => by
    by_cases z : a = p
    · subst z; rw [upd_same]; exact fun z => ho.1 ps (Option.some.inj z)
    · rw [upd_ne z]; exact E.ft hT a ps
  bt := E.bt
  ln := E.ln
  sl := fun j s hs => by
    obtain ⟨u, e1, e2⟩ := E.sl j s hs
    refine ⟨u, e1, ?_⟩
    cases s with
    | no => trivial
    | dat d => exact e2
    | is v => exact e2
    | obj r C' st' =>
      obtain ⟨e', k1, k2, dx, fs, k3, q'⟩ := e2
      exact ⟨e', k1, by rw [upd_ne (fun z => by subst z; exact hn j C' st' hs)]; exact k2, dx, fs, k3, q'⟩
    | own qb es =>
      obtain ⟨r, ys, e', k1, k2, k3, q', qq⟩ := e2
      exact ⟨r, ys, e', k1, by rw [upd_ne (ne_of k3 h3 (fun z => ho.2 ys z.symm))]; exact k2, k3, q', qq⟩
  ne := E.ne
theorem Env.unhideM {F : Hp} {W : Addr → Prop} {B H : Hp} {σ : Sigma} {o : HO} (hF : F p = none) (E : Env T (upd F p o) (fun a => W a ∨ a = p) B H σ ρ) (wf : ∀ a, W a → F a ≠ none) (ft : T ≠ [] → ∀ a ps, F a ≠ some (.tbl ps)) : Env T F W B H σ ρ ∧ B p = none ∧ H p = some o where
  left :=
    { fh := fun a u ha => E.fh a u (by rw [upd_ne (ne_of_none ha hF)]; exact ha)
      bh := E.bh
      wf := wf
      wb := fun a ha => E.wb a (.inl ha)
      tb := E.tb
      ft := ft
      bt := E.bt
      ln := E.ln
      sl := fun j s hs => by
        obtain ⟨u, e1, e2⟩ := E.sl j s hs
        refine ⟨u, e1, ?_⟩
        cases s with
        | no => trivial
        | dat d => exact e2
        | is v => exact e2
        | obj r C' st' =>
          obtain ⟨e', k1, k2, dx, fs, k3, q'⟩ := e2
          refine ⟨e', k1, ?_, dx, fs, k3, q'⟩
          by_cases z : r = p
          · rw [z]; exact hF
          · rw [upd_ne z] at k2; exact k2
        | own qb es =>
          obtain ⟨r, ys, e', k1, k2, k3, q', qq⟩ := e2
          refine ⟨r, ys, e', k1, ?_, k3, q', qq⟩
          by_cases z : r = p
          · rw [z]; exact hF
          · rw [upd_ne z] at k2; exact k2
      ne := E.ne }
  right := ⟨E.wb p (.inr rfl), E.fh p _ upd_same⟩
/-- desk, x, y, z = C(..), e, e, e -/
theorem sn_asg4 {J : List Sl → Prop} {j k l : Nat} {x y z : PyData} {tx ty tz : TE} (h : EM T te ρ C st ρ1) (hx : EA T (tCons tx (tCons ty (tCons tz tNil))) ρ1 [x, y, z] ρ1) (hJ : ∀ p, J ((((ρ1.set i (.obj p C st)).set j (.dat x)).set k (.dat y)).set l (.dat z))) :
    SN T X (tAsg (tTup (tCons te (tCons tx (tCons ty (tCons tz tNil))))) (gTup K 4 (gCons (gName i) (gCons (gName j) (gCons (gName k) (gCons (gName l) gNil)))))) ρ J := fun F W D B H σ Ev kk =>
  h F W B H σ _ Ev fun p dx fs B1 H1 e1 E1 hB hF hH q hn => hx _ _ B1 H1 σ _ (E1.hideM hB hH ⟨fun _ z => (by cases z), fun _ z => (by cases z)⟩ hn) fun vs B2 H2 e2 E2 q2 => by
    cases q2 with
    | cons a1 q2 =>
      cases q2 with
      | cons a2 q2 =>
        cases q2 with
        | cons a3 q2 =>
          cases q2
          rename_i v1 v2 v3
          obtain ⟨E3, f1, f2⟩ := Env.unhideM hF E2 E1.wf E1.ft
          refine ⟨by show 4 ≤ sizeLine; decide, fun r hr => ?_⟩
          have g := Grow.junk (o := .tup [.ref p, v1, v2, v3]) E3.bh hr
          refine ⟨r, _, rfl, SqT.of upd_same, rfl, _, _, rfl, _, _, rfl, _, _, rfl, _, _, rfl, rfl, ?_⟩
          exact kk _ (hJ p) _ B2 _ (e1.trans e2) (((((E3.grow g).setObj f1 hF (g.hh _ _ f2) (q.mono e2)).set a1).set a2).set a3)
/-- x, y, desk = e, e, C(..) -/
theorem sn_asg3 {J : List Sl → Prop} {j k : Nat} {x y : PyData} {tx ty : TE} (hx : EE T tx ρ x ρ2) (hy : EE T ty ρ2 y ρ3) (h : EM T te ρ3 C st ρ1) (hJ : ∀ p, J (((ρ1.set j (.dat x)).set k (.dat y)).set i (.obj p C st))) :
    SN T X (tAsg (tTup (tCons tx (tCons ty (tCons te tNil)))) (gTup K 3 (gCons (gName j) (gCons (gName k) (gCons (gName i) gNil))))) ρ J := fun F W D B H σ Ev kk =>
  hx F W B H σ _ Ev fun v1 B1 H1 e1 E1 a1 => hy F W B1 H1 σ _ E1 fun v2 B2 H2 e2 E2 a2 => h F W B2 H2 σ _ E2 fun p dx fs B3 H3 e3 E3 hB hF hH q hn => by
    refine ⟨by show 3 ≤ sizeLine; decide, fun r hr => ?_⟩
    have g := Grow.junk (o := .tup [v1, v2, .ref p]) E3.bh hr
    refine ⟨r, _, rfl, SqT.of upd_same, rfl, _, _, rfl, _, _, rfl, _, _, rfl, rfl, ?_⟩
    exact kk _ (hJ p) _ B3 _ ((e1.trans e2).trans e3) ((((E3.grow g).set (a1.mono (e2.trans e3))).set (a2.mono e3)).setObj hB hF (g.hh _ _ hH) q)
/-- len(desk) -/
theorem ee_lenM {n : Int} (h : ρ[i]? = some (.obj p C st)) (so : Sole ρ i) (hR : R st [] (.ok (.int n)) st') (hn : 0 ≤ n ∧ n < 1000000) : EE T (tCB (rLenM C (spM C R)) (tCons (tVar i) tNil)) ρ (.int n) (ρ.set i (.obj p C st')) := fun F W B H σ Q Ev k => by
  obtain ⟨e, f2, _, dx, fs, e4, q⟩ := Ev.obj h
  refine ⟨_, e, p, dx, fs, rfl, e4, B, p, dx, [], fs, st, [], .ok (.int n), st', rfl, Ev.bh, Ev.bt, f2, e4, q, .nil, hR, fun v B' H' dx' gs g hz q q' => ⟨n, q'.inv_int, by omega, k _ B' H' g.bb (Ev.growM h so g hz q) (.int n)⟩⟩
/-! ### calls in a lambda that change the object -/
/-- t ends in r, the names' things then ρ' -/
def ERm (T : TL) (t : XK → TE) (ρ : List Sl) (r : Res) (ρ' : List Sl) : Prop := ∀ F W B H σ (Q : VK) (E : XK), Env T F W B H σ ρ →
  (match r with
    | .ok d => ∀ v B' H', Ex B B' → Env T F W B' H' σ ρ' → Dt B' v d → Q v H'
    | .ex C => ∀ B' H', Ex B B' → Env T F W B' H' σ ρ' → E (.ref C) none H') → t E σ H Q
theorem er_of {t : XK → TE} {r : Res} (h : ERm T t ρ r ρ) : ER T t ρ r := by cases r <;> exact h
theorem erm_meth {r : Res} (h0 : ρ[i]? = some (.obj p C st0)) (hm : st0.lookup m = none) (h : EA T ta ρ ds ρ1) (h1 : ρ1[i]? = some (.obj p C st)) (so : Sole ρ1 i) (hR : R st ds r st') : ERm T (fun E => tMeth C m (spM C R) [] E (tVar i) ta) ρ r (ρ1.set i (.obj p C st')) := fun F W B H σ Q E Ev k => by
  obtain ⟨e, _, _, dx, fs, e4, q⟩ := Ev.obj h0
  refine ⟨_, e, p, dx, fs, rfl, e4, q.none hm, h F W B H σ _ Ev fun us B1 H1 e1 E1 q1 => ?_⟩
  obtain ⟨f1, f2, f3, dx1, fs1, f4, f5⟩ := E1.obj h1
  show spM C R (V.ref p :: (us ++ [])) H1 Q E
  rw [List.append_nil]
  refine ⟨B1, p, dx1, us, fs1, st, ds, r, st', rfl, E1.bh, E1.bt, f2, f4, f5, q1, hR, ?_⟩
  cases r with
  | ok d => exact fun v B' H' dx' gs g hz q q' => k v B' H' (e1.trans g.bb) (E1.growM h1 so g hz q) q'
  | ex D => exact fun B' H' dx' gs g hz q => k B' H' (e1.trans g.bb) (E1.growM h1 so g hz q)
theorem ee_toldM {t : XK → TE} {xa : Str → Addr} (hT : T ≠ []) (h : ERm T t ρ (.ok d) ρ1) : EE T (tTold K xa T t) ρ d ρ1 := fun F W B H σ Q Ev k =>
  ⟨Ev.tb, fun H1 e t1 => h F W B H1 σ _ _ (Ev.ext hT e t1) fun v B' H' e' E' q => k v B' H' e' E' q⟩
theorem ee_toldMX {t : XK → TE} {xa : Str → Addr} {x : Str} (hT : T ≠ []) (tt : Tt K xa x) (h : ERm T t ρ (.ex (xa x)) ρ1) : EE T (tTold K xa T t) ρ (errD x) ρ1 := fun F W B H σ Q Ev k =>
  ⟨Ev.tb, fun H1 e t1 => h F W B H1 σ _ _ (Ev.ext hT e t1) fun B' H' e' E' => ⟨x, rfl, rfl, tt, B', E'.bh, E'.bt, fun v B2 H2 g q => k v B2 H2 (e'.trans g.bb) (E'.grow g) q⟩⟩
end
/-! ### methods -/
structure MFn (K : PySem.W.Frag) (C : Addr) (m qual : Str) (st : Stmt) : Prop where
  ex : ∃ f fd, Fun K m qual st f fd ∧ Meth K C m f
def BindsM (m qual : Str) (st : Stmt) (ps : List Str) : Prop := ∀ (kV doc pm : Value) (an : Option Addr) (cdv ct : Value) (us : List Value), us.length = ps.length → bindArgs (PySem.W.fnOf m qual (defArgs st) (defBody st) (defScope st) .none kV doc pm an cdv ct) ⟨us, []⟩ = pure (ps.zip us)
section
variable {P : Program} {w : World} {K : PySem.W.Frag} {mg : Str → Option Value} {base : Heap}
theorem calMm {m qual : Str} {C : Addr} {st : Stmt} {N ps : List Str} {k : Nat} {R : Fs → List PyData → Res → Fs → Prop} (F : MFn K C m qual st) (S : FnScope N ps (defScope st)) (hbind : BindsM m qual st ps) (hl : ∀ cs ds r cs', R cs ds r cs' → ds.length + 1 = ps.length)
    (hb : ∀ (f : Addr) (cdv : Value) (A : Around) (outer : List PySem.Env) (s : Shared) (H : Hp) (E : XK), Room k (A.deeper (envOfC qual (defScope st) s.heap.objs.size f cdv)) →
      ∃ t, PSs (cxOf (L2N.CX P w) P w K mg base N qual (defScope st) f cdv A outer s H E) (defBody st) t ∧ ∀ p cs ds r cs', R cs ds r cs' → ∃ o, SS [] E t (slotsM p C N.length cs ds) o ∧ AnswersM p C cs' r o) :
    CalM P w K mg base (k + 1) C m ps (spM C R) := by
  obtain ⟨f, fd, Fu, hm⟩ := F.ex
  exact calM Fu hm (Fu.binds hbind) S hl fun cdv A outer s H E hr => hb f cdv A outer s H E hr
theorem CalM.mono {j k : Nat} {C : Addr} {m : Str} {ps : List Str} {sp : Sp} (c : CalM P w K mg base j C m ps sp) (h : j ≤ k) : CalM P w K mg base k C m ps sp := by
  obtain ⟨f, fd, F, r⟩ := c.ex
  exact ⟨f, fd, F.mono h, r⟩
end
end DL
/-! Ob3: defs whose calls write tables of code objects: a desk handed over, or dice and a desk. -/
namespace DL
open PySem L2 PyProof.Rows LamX
open Evl (Ex)
structure GrowT (M : Addr → Prop) (B H B' H' : Hp) : Prop where
  bb : Ex B B'
  bh : Ex B' H'
  hh : ∀ a o, ¬ M a → (∀ ps, o ≠ .tbl ps) → H a = some o → H' a = some o
  nb : ∀ a o, B a = none → H a = some o → (∀ ps, o ≠ .tbl ps) → B' a = none
  bt : ∀ p ps, B' p ≠ some (.tbl ps)
open Classical in
/-- what a callee must not touch: all but what it may change and the tables -/
noncomputable def FT (M : Addr → Prop) (H : Hp) : Hp := fun a => if M a ∨ ∃ ps, H a = some (.tbl ps) then none else H a
def WT (M : Addr → Prop) (B H : Hp) : Addr → Prop := fun a => FT M H a ≠ none ∧ B a = none
section
variable {M : Addr → Prop} {B H B' H' : Hp}
theorem FT_mem {a : Addr} (h : M a) : FT M H a = none := by unfold FT; rw [if_pos (.inl h)]
theorem FT_some {a : Addr} {o : HO} (h : FT M H a = some o) : ¬ M a ∧ (∀ ps, o ≠ .tbl ps) ∧ H a = some o := by
  unfold FT at h
  split at h
  · cases h
  · rename_i hn
    exact ⟨fun z => hn (.inl z), fun ps z => hn (.inr ⟨ps, by rw [h, z]⟩), h⟩
theorem FT_of {a : Addr} {o : HO} (h1 : ¬ M a) (h2 : ∀ ps, o ≠ .tbl ps) (h3 : H a = some o) : FT M H a = some o := by
  unfold FT
  rw [if_neg]
  · exact h3
  · rintro (z | ⟨ps, z⟩)
    · exact h1 z
    · rw [h3] at z; exact h2 ps (Option.some.inj z)
theorem startT_env {T : TL} {N : List Str} {vs : List V} {ss : List Sl} (hB : Ex B H) (hb : ∀ p ps, B p ≠ some (.tbl ps)) (hT : Tabs T H) (hl : vs.length = ss.length) (hs : ∀ (i : Nat) s, ss[i]? = some s → ∃ v, vs[i]? = some v ∧ SlOk (FT M H) B H (some v) s)
    (hn : ∀ (i j : Nat) q q' ds es, ss[i]? = some (.own q ds) → ss[j]? = some (.own q' es) → i = j) :
    Env T (FT M H) (WT M B H) B H (L2.start N vs) (ss ++ List.replicate (N.length - ss.length) .no) where
  fh := fun a o h => (FT_some h).2.2
  bh := hB
  wf := fun a h => h.1
  wb := fun a h => h.2
  tb := hT
  ft := fun _ a ps h => (FT_some h).2.1 ps rfl
  bt := hb
  ln := by unfold L2.start; simp [hl]
  sl := fun i s h => by
    unfold L2.start
    by_cases hi : i < ss.length
    · rw [List.getElem?_append_left hi] at h
      rw [List.getElem?_append_left (by simpa [hl] using hi), List.getElem?_map]
      obtain ⟨v, h1, h2⟩ := hs i s h
      exact ⟨some v, by rw [h1]; rfl, h2⟩
    · rw [List.getElem?_append_right (by omega)] at h
      rw [List.getElem?_append_right (by simp; omega)]
      rw [List.getElem?_replicate] at h ⊢
      simp only [List.length_map, hl] at h ⊢
      split at h
      · rename_i hlt
        cases h
        exact ⟨none, by rw [if_pos hlt], trivial⟩
      · cases h
  ne := fun i j r q1 q2 es fs hij hi hj => by
    have key : ∀ (k : Nat) q ds, (ss ++ List.replicate (N.length - ss.length) Sl.no)[k]? = some (.own q ds) → ss[k]? = some (.own q ds) := fun k q ds hk => by
      by_cases h : k < ss.length
      · rw [List.getElem?_append_left h] at hk; exact hk
      · rw [List.getElem?_append_right (by omega), List.getElem?_replicate] at hk
        split at hk <;> cases hk
    exact absurd (hn i j q1 q2 es fs (key i q1 es hi) (key j q2 fs hj)) hij
theorem endT_grow {T : TL} {σ : Sigma} {ρ : List Sl} (e : Ex B B') (E : Env T (FT M H) (WT M B H) B' H' σ ρ) (hM : ∀ a, M a → B' a = none) : GrowT M B H B' H' :=
  ⟨e, E.bh, fun a o h1 h2 h3 => E.fh a o (FT_of h1 h2 h3), fun a o h1 h2 h3 => by
    by_cases z : M a
    · exact hM a z
    · exact E.wb a ⟨(by rw [FT_of z h3 h2]; exact fun z => (by cases z)), h1⟩, E.bt⟩
variable {T : TL} {F : Hp} {W : Addr → Prop} {σ : Sigma} {ρ ρ' : List Sl}
/-- the caller behind such a call -/
theorem Env.growT (E : Env T F W B H σ ρ) (hT : T ≠ []) (g : GrowT M B H B' H') (t : Tabs T H') (hM : ∀ a, M a → F a = none) (hl : ρ'.length = ρ.length) (hs : ∀ (j : Nat) s, ρ'[j]? = some s → ∃ o, σ[j]? = some o ∧ SlOk F B' H' o s)
    (hn : ∀ (j : Nat) q ds, ρ'[j]? = some (.own q ds) → ∃ q' ds', ρ[j]? = some (.own q' ds')) : Env T F W B' H' σ ρ' where
  fh := fun a o ha => g.hh a o (fun z => by rw [hM a z] at ha; cases ha) (fun ps z => E.ft hT a ps (by rw [ha, z])) (E.fh a o ha)
  bh := g.bh
  wf := E.wf
  wb := fun a ha => by
    cases e : F a with
    | none => exact absurd e (E.wf a ha)
    | some o => exact g.nb a o (E.wb a ha) (E.fh a o e) (fun ps z => E.ft hT a ps (by rw [e, z]))
  tb := t
  ft := E.ft
  bt := g.bt
  ln := E.ln.trans hl.symm
  sl := hs
  ne := fun a b r q1 q2 fs gs hab ha hb => by
    obtain ⟨q1', fs', h1⟩ := hn a q1 fs ha
    obtain ⟨q2', gs', h2⟩ := hn b q2 gs hb
    exact E.ne a b r q1' q2' fs' gs' hab h1 h2
/-- a slot that is not touched -/
theorem slOk_growT {o : Option V} {s : Sl} (g : GrowT M B H B' H') (h : SlOk F B H o s) (hn : ∀ a, o = some (.ref a) → M a → ∀ q ds, s ≠ .own q ds) (hn' : ∀ a, M a → ∀ C st, s ≠ .obj a C st) : SlOk F B' H' o s := by
  cases s with
  | no => trivial
  | dat d => obtain ⟨v, e, q⟩ := h; exact ⟨v, e, q.mono g.bb⟩
  | is k => exact k.mono g.bb h
  | obj r C st =>
    obtain ⟨e', e1, e2, dx, fs, e3, q'⟩ := h
    have nr : ¬ M r := fun z => hn' r z C st rfl
    exact ⟨e', g.nb r _ e1 e3 (fun _ z => by cases z), e2, dx, fs, g.hh r _ nr (fun _ z => by cases z) e3, q'.mono g.bb⟩
  | own qb es =>
    obtain ⟨r, zs, e', e1, e2, e3, q', qq⟩ := h
    have nr : ¬ M r := fun z => hn r e' z qb es rfl
    exact ⟨r, zs, e', g.nb r _ e1 e3 (fun _ z => by cases z), e2, g.hh r _ nr (fun _ z => by cases z) e3, q'.mono g.bb, qq⟩
end
/-! ### a desk handed over -/
def spD (T : TL) (C : Addr) (R : Fs → List PyData → PyData → Fs → Prop) : Sp := fun vs H Q _ => ∃ B q dx us fs st ds d st', vs = .ref q :: us ∧ Ex B H ∧ (∀ a ps, B a ≠ some (.tbl ps)) ∧ Tabs T H ∧ B q = none ∧ H q = some (.ins C dx fs) ∧ DtFs B fs st ∧ DtAll B us ds ∧ R st ds d st' ∧
  ∀ v B' H' dx' gs, GrowT (· = q) B H B' H' → Tabs T H' → H' q = some (.ins C dx' gs) → DtFs B' gs st' → Dt B' v d → Q v H'
/-! ### dice and a desk handed over -/
def spU (T : TL) (C : Addr) (R : List PyData → Fs → List PyData → PyData → List PyData → Fs → Prop) : Sp := fun vs H Q _ => ∃ B p q dx us xs cs fs st ds d cs' st', vs = .ref p :: .ref q :: us ∧ Ex B H ∧ (∀ a ps, B a ≠ some (.tbl ps)) ∧ Tabs T H ∧ B p = none ∧ H p = some (.lst xs) ∧ DtAll B xs cs ∧ B q = none ∧ H q = some (.ins C dx fs) ∧ DtFs B fs st ∧ DtAll B us ds ∧ R cs st ds d cs' st' ∧
  ∀ v B' H' ys dx' gs, GrowT (fun a => a = p ∨ a = q) B H B' H' → Tabs T H' → H' p = some (.lst ys) → DtAll B' ys cs' → H' q = some (.ins C dx' gs) → DtFs B' gs st' → Dt B' v d → Q v H'
section
variable {T : TL} {E : XK} {ρ ρ1 : List Sl} {d : PyData} {ds cs cs0 cs' : List PyData} {ta : TA} {i j : Nat} {p q C : Addr} {st0 st st' : Fs}
theorem ee_callD {R : Fs → List PyData → PyData → Fs → Prop} (hT : T ≠ []) (h0 : ρ[i]? = some (.obj q C st0)) (h : EA T ta ρ ds ρ1) (h1 : ρ1[i]? = some (.obj q C st)) (so : Sole ρ1 i) (hR : R st ds d st') : EE T (tCall (spD T C R) [] E (tCons (tVar i) ta)) ρ d (ρ1.set i (.obj q C st')) := fun F W B H σ Q Ev k => by
  obtain ⟨e, _⟩ := Ev.obj h0
  refine ⟨_, e, h F W B H σ _ Ev fun us B1 H1 e1 E1 q1 => ?_⟩
  obtain ⟨f1, f2, f3, dx, fs, f4, f5⟩ := E1.obj h1
  have hil : i < ρ1.length := (List.getElem?_eq_some_iff.mp h1).1
  show spD T C R ((V.ref q :: us) ++ []) H1 Q E
  rw [List.append_nil]
  refine ⟨B1, q, dx, us, fs, st, ds, d, st', rfl, E1.bh, E1.bt, E1.tb, f2, f4, f5, q1, hR, fun v B' H' dx' gs g t hz hq q' => k v B' H' (e1.trans g.bb) (E1.growT hT g t (fun a z => by rw [z]; exact f3) (by rw [List.length_set]) (fun j s hs => ?_) (fun j qa ds' hs => ?_)) q'⟩
  · by_cases hj : i = j
    · subst hj
      rw [List.getElem?_set_self hil] at hs
      cases hs
      exact ⟨_, f1, rfl, g.nb q _ f2 f4 (fun _ z => by cases z), f3, dx', gs, hz, hq⟩
    · rw [List.getElem?_set_ne hj] at hs
      obtain ⟨o, a1, a2⟩ := E1.sl j s hs
      refine ⟨o, a1, slOk_growT g a2 (fun a ea ma qa ds' es => ?_) (fun a ma C' st'' es => ?_)⟩
      · subst es ea
        obtain ⟨r, zs, e', _, _, e3, _⟩ := a2
        cases e'
        rw [show a = q from ma, f4] at e3
        cases e3
      · subst es
        exact hj (by have := soleF_at so j a C' st'' hs; omega)
  · by_cases hj : i = j
    · subst hj; rw [List.getElem?_set_self hil] at hs; cases hs
    · rw [List.getElem?_set_ne hj] at hs; exact ⟨qa, ds', hs⟩
theorem ee_callU {R : List PyData → Fs → List PyData → PyData → List PyData → Fs → Prop} (hT : T ≠ []) (h0 : ρ[i]? = some (.own (some p) cs0)) (k0 : ρ[j]? = some (.obj q C st0)) (h : EA T ta ρ ds ρ1) (h1 : ρ1[i]? = some (.own (some p) cs)) (k1 : ρ1[j]? = some (.obj q C st)) (so : Sole ρ1 j) (hR : R cs st ds d cs' st') :
    EE T (tCall (spU T C R) [] E (tCons (tVar i) (tCons (tVar j) ta))) ρ d ((ρ1.set i (.own (some p) cs')).set j (.obj q C st')) := fun F W B H σ Q Ev k => by
  have e := Ev.ownAt h0
  obtain ⟨e', _⟩ := Ev.obj k0
  refine ⟨_, e, _, e', h F W B H σ _ Ev fun us B1 H1 e1 E1 q1 => ?_⟩
  obtain ⟨f1, f2, f3, dx, fs, f4, f5⟩ := E1.obj k1
  have g0 := E1.ownAt h1
  obtain ⟨p', xs, g1, g2, g3, g4, g5⟩ := E1.own h1
  rw [g0] at g1
  cases g1
  have hil : i < ρ1.length := (List.getElem?_eq_some_iff.mp h1).1
  have hjl : j < ρ1.length := (List.getElem?_eq_some_iff.mp k1).1
  have hij : j ≠ i := fun z => by subst z; rw [h1] at k1; cases k1
  have npq : p ≠ q := ne_of g4 f4 (fun z => by cases z)
  show spU T C R ((V.ref p :: V.ref q :: us) ++ []) H1 Q E
  rw [List.append_nil]
  refine ⟨B1, p, q, dx, us, xs, cs, fs, st, ds, d, cs', st', rfl, E1.bh, E1.bt, E1.tb, g2, g4, g5, f2, f4, f5, q1, hR, fun v B' H' ys dx' gs g t hy hys hz hq q' => k v B' H' (e1.trans g.bb) (E1.growT hT g t (fun a z => z.elim (fun z => by rw [z]; exact g3) (fun z => by rw [z]; exact f3)) (by rw [List.length_set, List.length_set]) (fun l s hs => ?_) (fun l qa ds' hs => ?_)) q'⟩
  · by_cases hj : j = l
    · subst hj
      rw [List.getElem?_set_self (by rw [List.length_set]; exact hjl)] at hs
      cases hs
      exact ⟨_, f1, rfl, g.nb q _ f2 f4 (fun _ z => by cases z), f3, dx', gs, hz, hq⟩
    · rw [List.getElem?_set_ne hj] at hs
      by_cases hi : i = l
      · subst hi
        rw [List.getElem?_set_self hil] at hs
        cases hs
        exact ⟨_, g0, p, ys, rfl, g.nb p _ g2 g4 (fun _ z => by cases z), g3, hy, hys, fun a z => by cases z; rfl⟩
      · rw [List.getElem?_set_ne hi] at hs
        obtain ⟨o, a1, a2⟩ := E1.sl l s hs
        refine ⟨o, a1, slOk_growT g a2 (fun a ea ma qa ds' es => ?_) (fun a ma C' st'' es => ?_)⟩
        · subst es ea
          rcases ma with ma | ma
          · subst ma
            exact E1.ne i l a _ _ _ _ hi h1 hs g0 a1
          · obtain ⟨r, zs, e', _, _, e3, _⟩ := a2
            cases e'
            rw [ma, f4] at e3
            cases e3
        · subst es
          exact hj (by have := soleF_at so l a C' st'' hs; omega)
  · by_cases hj : j = l
    · subst hj; rw [List.getElem?_set_self (by rw [List.length_set]; exact hjl)] at hs; cases hs
    · rw [List.getElem?_set_ne hj] at hs
      by_cases hi : i = l
      · subst hi; exact ⟨_, _, h1⟩
      · rw [List.getElem?_set_ne hi] at hs; exact ⟨qa, ds', hs⟩
end
theorem sl_dats {F B H : Hp} {us : List V} {ds : List PyData} (q : DtAll B us ds) (i : Nat) (s : Sl) (hs : (ds.map Sl.dat)[i]? = some s) : ∃ v, us[i]? = some v ∧ SlOk F B H (some v) s := by
  rw [List.getElem?_map] at hs
  cases e : ds[i]? with
  | none => rw [e] at hs; cases hs
  | some d =>
    rw [e] at hs
    cases hs
    obtain ⟨v, h1, h2⟩ := q.get e
    exact ⟨v, h1, v, rfl, h2⟩
theorem no_own {ds : List PyData} (i : Nat) (q : Option Addr) (es : List PyData) : (ds.map Sl.dat)[i]? ≠ some (.own q es) := fun h => by
  rw [List.getElem?_map] at h
  cases e : ds[i]? with
  | none => rw [e] at h; cases h
  | some d => rw [e] at h; cases h
def slotsD (q C : Addr) (n : Nat) (st : Fs) (ds : List PyData) : List Sl := (.obj q C st :: ds.map Sl.dat) ++ List.replicate (n - (ds.length + 1)) .no
def slotsU (p q C : Addr) (n : Nat) (cs : List PyData) (st : Fs) (ds : List PyData) : List Sl := (.own (some p) cs :: .obj q C st :: ds.map Sl.dat) ++ List.replicate (n - (ds.length + 2)) .no
/-- a def whose code object is known -/
structure FnC (K : PySem.W.Frag) (mg : Str → Option Value) (x : Str) (st : Stmt) (c : Addr) : Prop where
  ex : ∃ (f : Addr) (oc : Value) (od an : Option Addr) (kV doc pm ct : Value) (osl : Array (Option Value)), K.lookup f = some ⟨oc, od, .func (PySem.W.fnOf x x (defArgs st) (defBody st) (defScope st) .none kV doc pm an (.ref c) ct), osl⟩ ∧ PySem.W.codeIn K (.ref c) x = true ∧ mg x = some (.ref f) ∧ PySem.W.keepIn K (.ref f) = true
section
variable {P : Program} {w : World} {K : PySem.W.Frag} {mg : Str → Option Value} {base : Heap} {T : TL}
theorem calD {x : Str} {st : Stmt} {N ps : List Str} {k : Nat} {C c : Addr} {R : Fs → List PyData → PyData → Fs → Prop} (F : FnC K mg x st c) (S : FnScope N ps (defScope st)) (hbind : BindsAs x st ps) (hl : ∀ cs ds r cs', R cs ds r cs' → ds.length + 1 = ps.length)
    (hb : ∀ (f : Addr) (A : Around) (outer : List PySem.Env) (s : Shared) (H : Hp) (E : XK), Room k (A.deeper (envOfC x (defScope st) s.heap.objs.size f (.ref c))) →
      ∃ t, PSs (cxOf (L2N.CX P w) P w K mg base N x (defScope st) f (.ref c) A outer s H E).nox (defBody st) t ∧ ∀ q cs ds d cs', R cs ds d cs' → ∃ ρ', SS T E t (slotsD q C N.length cs ds) (.rt d ρ') ∧ ρ'[0]? = some (.obj q C cs')) :
    Cal P w K mg base (k + 1) x ps (spD T C R) := by
  obtain ⟨f, oc, od, an, kV, doc, pm, ct, osl, lk, hcd, hm, hk⟩ := F.ex
  have Fu : Fun K x x st f _ := ⟨⟨oc, od, kV, doc, pm, an, .ref c, ct, osl, rfl, lk, hcd⟩, hk⟩
  refine ⟨f, _, fn_of lk hcd S (fun vs H Q E h => ?_) (fun A outer s H vs Q E hr h => ?_), hm, hk, Fu.binds hbind⟩
  · obtain ⟨B, q, dx, us, fs, cs, ds, d, cs', rfl, _, _, _, _, _, _, qq, hR, _⟩ := h
    rw [List.length_cons, qq.length]; exact hl cs ds d cs' hR
  · obtain ⟨t, ht, hs⟩ := hb f A outer s H E hr
    refine ⟨t, ht.nox, ?_⟩
    obtain ⟨B, q, dx, us, fs, cs, ds, d, cs', rfl, hB, hbt, hT, hp, hH, qx, qq, hR, kk⟩ := h
    obtain ⟨ρ', ho, h0⟩ := hs q cs ds d cs' hR
    have hlen : (Sl.obj q C cs :: ds.map Sl.dat).length = ds.length + 1 := by simp
    have E0 := startT_env (M := (· = q)) (T := T) (N := N) (vs := .ref q :: us) (ss := .obj q C cs :: ds.map Sl.dat) hB hbt hT (by simp [qq.length]) (fun i s hs => by
      cases i with
      | zero =>
        simp at hs
        subst hs
        exact ⟨.ref q, rfl, rfl, hp, FT_mem rfl, dx, fs, hH, qx⟩
      | succ i => exact sl_dats qq i s (by simpa using hs)) (fun i j qa qb es gs hi hj => by
      cases i with
      | zero => cases hi
      | succ i => exact absurd (by simpa using hi) (no_own (ds := ds) i qa es))
    rw [hlen] at E0
    refine ho _ _ _ B H _ E0 fun v σ' B' H' e E' q' => ?_
    obtain ⟨a1, a2, a3, dx', gs, a4, a5⟩ := E'.obj h0
    exact kk v B' H' dx' gs (endT_grow e E' fun a z => by rw [z]; exact a2) E'.tb a4 a5 q'
theorem calU {x : Str} {st : Stmt} {N ps : List Str} {k : Nat} {C : Addr} {R : List PyData → Fs → List PyData → PyData → List PyData → Fs → Prop} (F : Fn K mg x st) (S : FnScope N ps (defScope st)) (hbind : BindsAs x st ps) (hl : ∀ cs st ds d cs' st', R cs st ds d cs' st' → ds.length + 2 = ps.length)
    (hb : ∀ (f : Addr) (cdv : Value) (A : Around) (outer : List PySem.Env) (s : Shared) (H : Hp) (E : XK), Room k (A.deeper (envOfC x (defScope st) s.heap.objs.size f cdv)) →
      ∃ t, PSs (cxOf (L2N.CX P w) P w K mg base N x (defScope st) f cdv A outer s H E).nox (defBody st) t ∧ ∀ p q cs fs ds d cs' fs', R cs fs ds d cs' fs' → ∃ ρ', SS T E t (slotsU p q C N.length cs fs ds) (.rt d ρ') ∧ ρ'[0]? = some (.own (some p) cs') ∧ ρ'[1]? = some (.obj q C fs')) :
    Cal P w K mg base (k + 1) x ps (spU T C R) := by
  obtain ⟨f, fd, Fu, hm⟩ := F.ex
  refine ⟨f, fd, Fu.okN S (fun vs H Q E h => ?_) (fun cdv A outer s H vs Q E hr h => ?_), hm, Fu.kp, Fu.binds hbind⟩
  · obtain ⟨B, p, q, dx, us, xs, cs, fs, st, ds, d, cs', st', rfl, _, _, _, _, _, _, _, _, _, qq, hR, _⟩ := h
    rw [List.length_cons, List.length_cons, qq.length]; exact hl _ _ _ _ _ _ hR
  · obtain ⟨t, ht, hs⟩ := hb f cdv A outer s H E hr
    refine ⟨t, ht.nox, ?_⟩
    obtain ⟨B, p, q, dx, us, xs, cs, fs, st, ds, d, cs', st', rfl, hB, hbt, hT, hp, hHp, qx, hq, hHq, qf, qq, hR, kk⟩ := h
    obtain ⟨ρ', ho, h0, h1⟩ := hs p q cs st ds d cs' st' hR
    have hlen : (Sl.own (some p) cs :: Sl.obj q C st :: ds.map Sl.dat).length = ds.length + 2 := by simp
    have E0 := startT_env (M := fun a => a = p ∨ a = q) (T := T) (N := N) (vs := .ref p :: .ref q :: us) (ss := .own (some p) cs :: .obj q C st :: ds.map Sl.dat) hB hbt hT (by simp [qq.length]) (fun i s hs => by
      cases i with
      | zero =>
        simp at hs
        subst hs
        exact ⟨.ref p, rfl, p, xs, rfl, hp, FT_mem (.inl rfl), hHp, qx, fun a z => by cases z; rfl⟩
      | succ i =>
        cases i with
        | zero =>
          simp at hs
          subst hs
          exact ⟨.ref q, rfl, rfl, hq, FT_mem (.inr rfl), dx, fs, hHq, qf⟩
        | succ i => exact sl_dats qq i s (by simpa using hs)) (fun i j qa qb es gs hi hj => by
      have only : ∀ (k : Nat) qc gs, (Sl.own (some p) cs :: Sl.obj q C st :: ds.map Sl.dat)[k]? = some (.own qc gs) → k = 0 := fun k qc gs hk => by
        cases k with
        | zero => rfl
        | succ k =>
          cases k with
          | zero => cases hk
          | succ k => exact absurd (by simpa using hk) (no_own (ds := ds) k qc gs)
      rw [only i qa es hi, only j qb gs hj])
    rw [hlen] at E0
    refine ho _ _ _ B H _ E0 fun v σ' B' H' e E' q' => ?_
    obtain ⟨a1, a2, a3, dx', gs, a4, a5⟩ := E'.obj h1
    obtain ⟨p', ys, b1, b2, b3, b4, b5⟩ := E'.own h0
    have b6 := E'.ownAt h0
    rw [b1] at b6
    cases b6
    exact kk v B' H' ys dx' gs (endT_grow e E' fun a z => z.elim (fun z => by rw [z]; exact b2) (fun z => by rw [z]; exact a2)) E'.tb b4 b5 a4 a5 q'
end
end DL
/-! K19: desks, plain. -/
namespace U
open PySem L2 DL
open Evl (Ex)
/-- what the numbers of all places are -/
abbrev Nm := List (Option Int)
def eO : Option Int → PyData
  | none => .none
  | some i => .int i
abbrev eN (ns : Nm) : PyData := .tuple (ns.map eO)
abbrev eE (l : List Nm) : PyData := .list (l.map eN)
def atN (ns : Nm) (i : Int) : Option Int := (ns[i.toNat]?).getD none
def withN (ns : Nm) (i : Int) (x : Option Int) : Nm := ns.take i.toNat ++ [x] ++ ns.drop (i.toNat + 1)
def lineN (ns : Nm) (p : Int × Int) : Option Int := match atN ns p.1, atN ns p.2 with
  | some a, some b => some (iabs (a - b))
  | _, _ => none
def knownN (w : Wb) (ns : Nm) : List Int := w.2.filterMap (lineN ns)
def unlikeK (w : Wb) (ns : Nm) : Bool := decide (dcount (knownN w ns) = (knownN w ns).length)
def fitD (w : Wb) (ns : Nm) (i x : Int) : Bool := !ns.contains (some x) && unlikeK w (withN ns i (some x))
def filledN (ns : Nm) : Nat := (ns.filter Option.isSome).length
theorem atN_ok {ns : Nm} {i : Int} (h0 : 0 ≤ i) (h1 : i < ns.length) : atI (ns.map eO) i = some (eO (atN ns i)) := by
  obtain ⟨j, rfl⟩ := Int.eq_ofNat_of_zero_le h0
  have hj : j < ns.length := by omega
  unfold atI ixN atN
  rw [List.length_map, if_pos (by omega), if_pos (by omega)]
  show (ns.map eO)[((j : Nat) : Int).toNat]? = _
  rw [Int.toNat_natCast, List.getElem?_map, List.getElem?_eq_getElem hj]
  rfl
theorem isNone_eO (o : Option Int) : isNone (eO o) = o.isNone := by cases o <;> rfl
theorem withN_len {ns : Nm} {i : Int} {x : Option Int} (h0 : 0 ≤ i) (h1 : i < ns.length) : (withN ns i x).length = ns.length := by
  unfold withN
  rw [List.length_append, List.length_append, List.length_take, List.length_drop, List.length_singleton]
  omega
theorem knownN_len (w : Wb) (ns : Nm) : (knownN w ns).length ≤ w.2.length := List.length_filterMap_le _ _
theorem filledN_le (ns : Nm) : filledN ns ≤ ns.length := List.length_filter_le _ _
/-! ### in -/
def vO : Option Int → V
  | none => .non
  | some i => .int i
theorem opts {B : Hp} : ∀ {ns : Nm} {vs : List V}, DtAll B vs (ns.map eO) → vs = ns.map vO
  | [], _, h => by cases h; rfl
  | none :: ns, _, h => by
    cases h with
    | cons h1 h2 =>
      have e := Dt.inv_non h1
      subst e
      rw [opts h2]
      rfl
  | some i :: ns, _, h => by
    cases h with
    | cons h1 h2 =>
      have e := Dt.inv_int h1
      subst e
      rw [opts h2]
      rfl
theorem inV_opts (i : Int) : ∀ ns : Nm, inV (.int i) (ns.map vO) = ns.contains (some i)
  | [] => rfl
  | none :: ns => by
    show (eqV .non (.int i) || inV (.int i) (ns.map vO)) = _
    rw [inV_opts i ns, List.contains_cons]
    rfl
  | some n :: ns => by
    show (eqV (.int n) (.int i) || inV (.int i) (ns.map vO)) = _
    rw [inV_opts i ns, List.contains_cons]
    congr 1
    show (n == i) = (some i == some n)
    by_cases h : n = i
    · subst h; simp
    · have h' : ¬ i = n := fun z => h z.symm
      have e1 : (n == i) = false := beq_eq_false_iff_ne.mpr h
      have e2 : (some i == some n) = false := beq_eq_false_iff_ne.mpr fun z => h' (Option.some.inj z)
      rw [e1, e2]
theorem flat_opts : ∀ ns : Nm, (ns.map vO).all flatV = true
  | [] => rfl
  | o :: ns => by
    rw [List.map_cons, List.all_cons, flat_opts ns]
    cases o <;> rfl
theorem re_inO {K : PySem.W.Frag} {i : Int} {ns : Nm} : RE (rIn K false) (.int i) (eN ns) (.bool (ns.contains (some i))) := fun B H vx vy Q e bt q1 q2 k => by
  obtain ⟨a, xs, f1, f2, q⟩ := q2.inv_tup
  have ex := opts q
  subst ex
  refine ⟨a, _, f1, .inr (SqT.of (e _ _ f2)), by rw [q1.inv_int]; rfl, flat_opts ns, ?_⟩
  rw [q1.inv_int, inV_opts]
  exact k _ B H (Grow.refl e) (.bl _)
theorem re_eqS {a b : Str} : RE rEq (.str a) (.str b) (.bool (decide (a = b))) := fun B H vx vy Q e bt h1 h2 k => by
  have e1 := h1.inv_str; have e2 := h2.inv_str
  subst e1 e2
  refine ⟨rfl, ?_⟩
  have : decide (V.str a = V.str b) = decide (a = b) := by simp
  rw [this]
  exact k _ B H (Grow.refl e) (.bl _)
/-! ### equality -/
theorem pl_eO (o : Option Int) : pl (eO o) = true := by cases o <;> simp [eO, pl]
theorem pl_eN (ns : Nm) : pl (eN ns) = true := by show pl (.tuple _) = true; unfold pl; exact plAll_map ns fun _ _ => pl_eO _
theorem pl_eE (l : List Nm) : pl (eE l) = true := by show pl (.list _) = true; unfold pl; exact plAll_map l fun _ _ => pl_eN _
theorem eO_inj (a b : Option Int) (h : eO a = eO b) : a = b := by cases a <;> cases b <;> simp_all [eO]
theorem eN_inj {a b : Nm} (h : eN a = eN b) : a = b := map_inj eO_inj (by simpa [eN] using h)
theorem eE_inj {a b : List Nm} (h : eE a = eE b) : a = b := map_inj (fun _ _ => eN_inj) (by simpa [eE] using h)
theorem dp_eN (ns : Nm) : (eN ns).depth ≤ 1 := by
  have := depthAll_map (f := eO) (n := 0) ns (fun o _ => by cases o <;> simp [eO, PyData.depth])
  simp only [eN, PyData.depth]; omega
theorem dp_eE (l : List Nm) : (eE l).depth ≤ 2 := by
  have := depthAll_map (f := eN) (n := 1) l (fun o _ => dp_eN o)
  simp only [eE, PyData.depth] at *; omega
theorem sh_eN (ns : Nm) : SeqAt.shaped (eN ns) = true := shaped_of (pl_eN ns) (Nat.le_trans (dp_eN ns) (by decide))
theorem sh_eE (l : List Nm) : SeqAt.shaped (eE l) = true := shaped_of (pl_eE l) (Nat.le_trans (dp_eE l) (by decide))
theorem eqv_eN (a b : Nm) : PyData.eqv (eN a) (eN b) = decide (a = b) := eqv_dec (f := eN) pl_eN (fun _ _ => eN_inj) a b
theorem eqv_eE (a b : List Nm) : PyData.eqv (eE a) (eE b) = decide (a = b) := eqv_dec (f := eE) pl_eE (fun _ _ => eE_inj) a b
theorem eqv_eE_nil (a : List Nm) : PyData.eqv (eE a) (.list []) = decide (a = []) := eqv_eE a []
/-! ### the desk -/
structure Dk where
  web : Wb
  now : Nm
  earlier : List Nm
  undone : List Nm
def eDk (s : Dk) : Fs := [("web", eW s.web), ("now", eN s.now), ("earlier", eE s.earlier), ("undone", eE s.undone)]
structure DkOk (s : Dk) (n : Nat) : Prop where
  ok : okW s.web = true
  len : (s.now.length : Int) = s.web.1
  le : ∀ ns ∈ s.earlier, (ns.length : Int) = s.web.1
  lu : ∀ ns ∈ s.undone, (ns.length : Int) = s.web.1
  sz : s.earlier.length + s.undone.length ≤ n
theorem DkOk.mono {s : Dk} {m n : Nat} (h : DkOk s m) (k : m ≤ n) : DkOk s n := ⟨h.ok, h.len, h.le, h.lu, Nat.le_trans h.sz k⟩
def chg (s : Dk) (ns : Nm) : Dk := ⟨s.web, ns, s.earlier ++ [s.now], []⟩
theorem chg_ok {s : Dk} {n : Nat} (h : DkOk s n) {ns : Nm} (hl : (ns.length : Int) = s.web.1) : DkOk (chg s ns) (n + 1) := by
  refine ⟨h.ok, hl, fun m hm => ?_, fun m hm => (by cases hm), ?_⟩
  · rcases List.mem_append.mp hm with hm | hm
    · exact h.le m hm
    · have : m = s.now := by simpa using hm
      rw [this]; exact h.len
  · have := h.sz
    show (s.earlier ++ [s.now]).length + 0 ≤ n + 1
    rw [List.length_append, List.length_singleton]; omega
/-- what an operation ends in: an exception's name, or a datum and the desk then -/
abbrev Dend := Str ⊕ (PyData × Dk)
def putI (s : Dk) (i x : Int) : Dend :=
  if (atN s.now i).isSome then .inl "AlreadyThere" else if s.now.contains (some x) then .inl "Taken" else if !unlikeK s.web (withN s.now i (some x)) then .inl "Equal" else
    .inr (.int (filledN (withN s.now i (some x))), chg s (withN s.now i (some x)))
def putO (s : Dk) (d e : PyData) : Dend := match d with
  | .int i => if wholeB (.int i) 0 (s.web.1 - 1) then (match e with
    | .int x => if wholeB (.int x) 0 (topW s.web) then putI s i x else .inl "InvalidNumber"
    | _ => .inl "InvalidNumber") else .inl "InvalidPlace"
  | _ => .inl "InvalidPlace"
def takeI (s : Dk) (i : Int) : Dend := match atN s.now i with
  | none => .inl "NotThere"
  | some x => .inr (.int x, chg s (withN s.now i none))
def takeO (s : Dk) (d : PyData) : Dend := match d with
  | .int i => if wholeB (.int i) 0 (s.web.1 - 1) then takeI s i else .inl "InvalidPlace"
  | _ => .inl "InvalidPlace"
def undoO (s : Dk) : Dend := match s.earlier.getLast? with
  | none => .inl "NothingToUndo"
  | some ns => .inr (eN ns, ⟨s.web, ns, s.earlier.dropLast, s.undone ++ [s.now]⟩)
def redoO (s : Dk) : Dend := match s.undone.getLast? with
  | none => .inl "NothingToUndo"
  | some ns => .inr (eN ns, ⟨s.web, ns, s.earlier ++ [s.now], s.undone.dropLast⟩)
def mayI (s : Dk) (i : Int) : List Int := if (atN s.now i).isSome then [] else (ri 0 (topW s.web + 1).toNat).filter (fitD s.web s.now i)
def mayO (s : Dk) (d : PyData) : Dend := match d with
  | .int i => if wholeB (.int i) 0 (s.web.1 - 1) then .inr (eT (mayI s i), s) else .inl "InvalidPlace"
  | _ => .inl "InvalidPlace"
/-- how a method answers -/
def says (xa : XA) (s : Dk) : Dend → Res → Fs → Prop
  | .inl x, r, st' => r = .ex (xa x) ∧ st' = eDk s
  | .inr (d, s'), r, st' => r = .ok d ∧ st' = eDk s'
/-- the class Desk: its attributes stand in the instance -/
structure DeskC (K : PySem.W.Frag) (C : Addr) : Prop where
  cls : Cls K C
  web : NoAttr K C "web"
  now : NoAttr K C "now"
  earlier : NoAttr K C "earlier"
  undone : NoAttr K C "undone"
section
variable {K : PySem.W.Frag} {Cd p : Addr} {T : TL} {ρ : List Sl} {i : Nat} {s : Dk} {X : XK}
theorem ee_web (dk : DeskC K Cd) (h : ρ[i]? = some (.obj p Cd (eDk s))) : EE T (tFld K (tVar i) "web") ρ (eW s.web) ρ := ee_fld h rfl dk.cls dk.web
theorem ee_now (dk : DeskC K Cd) (h : ρ[i]? = some (.obj p Cd (eDk s))) : EE T (tFld K (tVar i) "now") ρ (eN s.now) ρ := ee_fld h rfl dk.cls dk.now
theorem ee_earlier (dk : DeskC K Cd) (h : ρ[i]? = some (.obj p Cd (eDk s))) : EE T (tFld K (tVar i) "earlier") ρ (eE s.earlier) ρ := ee_fld h rfl dk.cls dk.earlier
theorem ee_undone (dk : DeskC K Cd) (h : ρ[i]? = some (.obj p Cd (eDk s))) : EE T (tFld K (tVar i) "undone") ρ (eE s.undone) ρ := ee_fld h rfl dk.cls dk.undone
end
theorem wholeB_int {d : PyData} {lo hi : Int} (h : wholeB d lo hi = true) : ∃ i, d = .int i ∧ lo ≤ i ∧ i ≤ hi := by
  unfold wholeB at h
  split at h
  · rename_i i
    simp only [Bool.and_eq_true, decide_eq_true_eq] at h
    exact ⟨i, rfl, h.1, h.2⟩
  · cases h
theorem wholeB_of {i lo hi : Int} (h1 : lo ≤ i) (h2 : i ≤ hi) : wholeB (.int i) lo hi = true := by
  unfold wholeB
  simp [h1, h2]
theorem ends_ok {v : Wb} (g : GoodW v) {n : Nat} (h : (n : Int) = v.1) : EndsW v n := fun p hp => by
  have := g.line p hp
  omega
theorem cut_with (ns : Nm) {i : Int} (h0 : 0 ≤ i) (x : Option Int) : cutD (ns.map eO) none (some i) ++ [eO x] ++ cutD (ns.map eO) (some (i + 1)) none = (withN ns i x).map eO := by
  rw [cut_to _ h0, cut_from _ (by omega)]
  unfold withN
  rw [List.map_append, List.map_append, List.map_take, List.map_drop]
  have : (i + 1).toNat = i.toNat + 1 := by omega
  rw [this]
  rfl
/-- numbers[:place] + (number,) + numbers[place + 1:] -/
theorem ee_with {K : PySem.W.Frag} {T : TL} {ρ : List Sl} {ns : Nm} {x : Option Int} {tn ti tx : TE} {k : Int} (hn : EE T tn ρ (eN ns) ρ) (hi : EE T ti ρ (.int k) ρ) (hx : EE T tx ρ (eO x) ρ) (h0 : 0 ≤ k) (h1 : k < ns.length) (hl : ns.length ≤ 1000) :
    EE T (tOp (rCatA K) (tOp (rCatA K) (tSl (rSlA K) tn tNoPart (tPart ti)) (tTup (tCons tx tNil))) (tSl (rSlA K) tn (tPart (tOp (rI0 fun i j => .int (i + j)) ti (tC (.int 1)))) tNoPart)) ρ (eN (withN ns k x)) ρ := by
  have c1 := cut_to (ns.map eO) h0
  have c2 := cut_from (ns.map eO) (i := k + 1) (by omega)
  have e := cut_with ns h0 x
  have l1 : (cutD (ns.map eO) none (some k)).length ≤ 1000 := by rw [c1, List.length_take, List.length_map]; omega
  have l2 : (cutD (ns.map eO) (some (k + 1)) none).length ≤ 1000 := by rw [c2, List.length_drop, List.length_map]; omega
  have := ee_op (ee_op (ee_slT (K := K) hn eo_none (eo_some hi)) (ee_tup (ea_1 hx) (by simp)) (re_catT (K := K) (by rw [List.length_singleton]; omega))) (ee_slT (K := K) hn (eo_some (ee_op hi (ee_int (i := 1)) re_add)) eo_none) (re_catT (K := K) (by rw [List.length_append, List.length_singleton]; omega))
  rw [e] at this
  exact this
/-! ### the two tables -/
abbrev T2 (Pd Pt : Addr) : TL := [(Pd, (("_law_done" : Str) ++ ".<locals>.") ++ "<lambda>"), (Pt, (("law" : Str) ++ ".<locals>.") ++ "<lambda>")]
theorem T2_d {Pd Pt : Addr} (h : Pd ≠ Pt) : ∀ p ∈ T2 Pd Pt, p.1 = Pd → p.2 = (("_law_done" : Str) ++ ".<locals>.") ++ "<lambda>" := fun p hp e => by
  cases hp with
  | head => rfl
  | tail _ hp =>
    cases hp with
    | head => exact absurd e.symm h
    | tail _ hp => cases hp
theorem T2_l {Pd Pt : Addr} (h : Pd ≠ Pt) : ∀ p ∈ T2 Pd Pt, p.1 = Pt → p.2 = (("law" : Str) ++ ".<locals>.") ++ "<lambda>" := fun p hp e => by
  cases hp with
  | head => exact absurd e h
  | tail _ hp =>
    cases hp with
    | head => rfl
    | tail _ hp => cases hp
theorem T2_ne {Pd Pt : Addr} : T2 Pd Pt ≠ [] := fun h => by cases h
theorem put_now (s : Dk) (ns : Nm) : putD "now" (eN ns) (eDk s) = eDk ⟨s.web, ns, s.earlier, s.undone⟩ := rfl
theorem put_earlier (s : Dk) (l : List Nm) : putD "earlier" (eE l) (eDk s) = eDk ⟨s.web, s.now, l, s.undone⟩ := rfl
theorem put_undone (s : Dk) (l : List Nm) : putD "undone" (eE l) (eDk s) = eDk ⟨s.web, s.now, s.earlier, l⟩ := rfl
section
variable {K : PySem.W.Frag} {Cd p : Addr} {T : TL} {ρ ρ1 : List Sl} {i : Nat} {s : Dk} {X : XK} {tv : TE}
theorem ss_now {ns : Nm} (dk : DeskC K Cd) (hv : EE T tv ρ (eN ns) ρ) (h : ρ[i]? = some (.obj p Cd (eDk s))) (so : Sole ρ i) : SS T X (sFld K (tVar i) tv "now") ρ (.nx (ρ.set i (.obj p Cd (eDk ⟨s.web, ns, s.earlier, s.undone⟩)))) := ss_fld hv h so dk.cls dk.now (by show 4 < 1000; decide)
theorem ss_earlier {l : List Nm} (dk : DeskC K Cd) (hv : EE T tv ρ (eE l) ρ) (h : ρ[i]? = some (.obj p Cd (eDk s))) (so : Sole ρ i) : SS T X (sFld K (tVar i) tv "earlier") ρ (.nx (ρ.set i (.obj p Cd (eDk ⟨s.web, s.now, l, s.undone⟩)))) := ss_fld hv h so dk.cls dk.earlier (by show 4 < 1000; decide)
theorem ss_undone {l : List Nm} (dk : DeskC K Cd) (hv : EE T tv ρ (eE l) ρ) (h : ρ[i]? = some (.obj p Cd (eDk s))) (so : Sole ρ i) : SS T X (sFld K (tVar i) tv "undone") ρ (.nx (ρ.set i (.obj p Cd (eDk ⟨s.web, s.now, s.earlier, l⟩)))) := ss_fld hv h so dk.cls dk.undone (by show 4 < 1000; decide)
/-- len([one for one in numbers if one is not None]) -/
theorem ee_fill {tn : TE} {j : Nat} {ns : Nm} (h : EE T tn ρ (eN ns) ρ) (hl : ns.length ≤ 1000) (hj : ∀ qa ds, ρ[j]? ≠ some (.own qa ds)) (hd : j < ρ.length := by decide) (hj' : ∀ p C st, ρ[j]? ≠ some (.obj p C st) := by intro _ _ _ h; cases h) :
    EE T (tCB (rLenQ K) (tCons (tLc (iTup K tn) (gName j) (tTest (tOp (fun x y H Q => y = .non ∧ Q (.bl (!decide (x = .non))) H) (tVar j) (tC .non))) (tVar j) [j]) tNil)) ρ (.int (filledN ns)) ρ := by
  have hf := filledN_le ns
  have e : PyData.int (filledN ns) = .int (((ns.filter Option.isSome).map eO).length : Nat) := by rw [List.length_map]; rfl
  rw [e]
  refine ee_cb (ea_1 (el_lcTp (es := (ns.filter Option.isSome).map eO) h (lcr_filter eO Option.isSome eO ns fun x _ => ?_) (by rw [List.length_map]; exact Nat.le_trans (Nat.le_trans hf hl) (by decide))).ee) rb_lenL
  refine lc1 (b := x.isSome) hj (ET.is (et_test (ee_op (ee_var (List.getElem?_set_self hd)) ee_non re_notN)) ?_) (fun _ => ee_var (List.getElem?_set_self hd)) hj'
  rw [isNone_eO]
  cases x <;> rfl
/-- l + [ns] -/
theorem ee_snoc {ta tb : TE} {l : List Nm} {ns : Nm} (h1 : EE T ta ρ (eE l) ρ) (h2 : EE T tb ρ (eN ns) ρ) (hl : l.length ≤ 1000) : EE T (tOp rCat ta (tLst (tCons tb tNil))) ρ (eE (l ++ [ns])) ρ := by
  have := (el_op h1 (el_lst (ea_1 h2) (by simp)).ee (rel_cat (by simp only [List.length_map, List.length_singleton]; omega))).ee
  rw [← List.map_singleton (f := eN), ← List.map_append] at this
  exact this
/-- l[-1], l[:-1] -/
theorem atI_last {l : List Nm} {ns : Nm} (h : l.getLast? = some ns) : atI (l.map eN) (-1) = some (eN ns) := by
  have hne : l ≠ [] := fun z => by rw [z] at h; cases h
  have hpos : 0 < l.length := List.length_pos_iff.mpr hne
  unfold atI ixN
  rw [List.length_map, if_neg (by decide), if_pos (by omega)]
  show (l.map eN)[((-1 : Int) + (l.length : Int)).toNat]? = _
  have e : ((-1 : Int) + (l.length : Int)).toNat = l.length - 1 := by omega
  rw [e, List.getElem?_map, ← List.getLast?_eq_getElem?, h]
  rfl
theorem cut_butlast (l : List Nm) : cutD (l.map eN) none (some (-1)) = l.dropLast.map eN := by
  unfold cutD
  rw [List.length_map]
  have e0 : HT.sIx l.length 0 none = 0 := rfl
  rw [e0, List.drop_zero, Nat.sub_zero, ← List.map_take]
  congr 1
  rw [List.dropLast_eq_take]
  congr 1
  unfold HT.sIx
  dsimp only
  split <;> omega
theorem ee_last {ta : TE} {l : List Nm} {ns : Nm} (h1 : EE T ta ρ (eE l) ρ) (h : l.getLast? = some ns) : EE T (tOp (rIxL K) ta (tUn (rU fun i => .int (-i)) (tC (.int 1)))) ρ (eN ns) ρ := ee_op h1 (ee_neg ee_int) (re_ixL (atI_last h))
theorem ee_butlast {ta : TE} {l : List Nm} (h1 : EE T ta ρ (eE l) ρ) : EE T (tSl (rSlL K) ta tNoPart (tPart (tUn (rU fun i => .int (-i)) (tC (.int 1))))) ρ (eE l.dropLast) ρ := by
  have := (el_sl (K := K) h1 eo_none (eo_some (ee_neg (ee_int (i := 1))))).ee
  rw [cut_butlast] at this
  exact this
end
/-! ### the law's own -/
def nextO (w : Wb) (ns : Nm) (i x : Int) : PyData :=
  if (atN ns i).isSome then errD "AlreadyThere" else if ns.contains (some x) then errD "Taken" else if unlikeK w (withN ns i (some x)) then eN (withN ns i (some x)) else errD "Equal"
/-- what is told of an end, and the desk then -/
def tell (s : Dk) : Dend → PyData × Dk
  | .inl x => (errD x, s)
  | .inr y => y
def doneO (s : Dk) (n : Str) (i x : Int) : Dend := if n = "put" then putO s (.int i) (.int x) else if n = "take" then takeO s (.int i) else if n = "undo" then undoO s else redoO s
def doneD (s : Dk) (n : Str) (i x : Int) : PyData × Dk := tell s (doneO s n i x)
def names19 : List Str := ["put", "put", "put", "put", "take", "undo", "redo"]
def nameAt (k : Int) : Str := names19.getD k.toNat ""
theorem name_at {k : Int} (h0 : 0 ≤ k) (h1 : k < 7) : atI (names19.map PyData.str) k = some (.str (nameAt k)) := by
  have : k = 0 ∨ k = 1 ∨ k = 2 ∨ k = 3 ∨ k = 4 ∨ k = 5 ∨ k = 6 := by omega
  rcases this with rfl | rfl | rfl | rfl | rfl | rfl | rfl <;> rfl
theorem name_of {k : Int} (h0 : 0 ≤ k) (h1 : k < 7) : nameAt k = "put" ∨ nameAt k = "take" ∨ nameAt k = "undo" ∨ nameAt k = "redo" := by
  have : k = 0 ∨ k = 1 ∨ k = 2 ∨ k = 3 ∨ k = 4 ∨ k = 5 ∨ k = 6 := by omega
  rcases this with rfl | rfl | rfl | rfl | rfl | rfl | rfl <;> first | exact .inl rfl | exact .inr (.inl rfl) | exact .inr (.inr (.inl rfl)) | exact .inr (.inr (.inr rfl))
def turnM (D : Dc) (s : Dk) : (PyData × Dk) × Dc :=
  (doneD s (nameAt (rollV D 7)) (rollV (rollS D 7) s.web.1) (rollV (rollS (rollS D 7) s.web.1) (topW s.web + 1)), rollS (rollS (rollS D 7) s.web.1) (topW s.web + 1))
def deskKinds : List Str := ["InvalidPlace", "InvalidNumber", "AlreadyThere", "Taken", "Equal", "NotThere", "NothingToUndo"]
theorem putI_x {s : Dk} {i x : Int} {y : Str} (h : putI s i x = .inl y) : y ∈ deskKinds := by
  unfold putI at h
  split at h
  · cases h; decide +kernel
  · split at h
    · cases h; decide +kernel
    · split at h
      · cases h; decide +kernel
      · cases h
theorem putO_x {s : Dk} {d e : PyData} {y : Str} (h : putO s d e = .inl y) : y ∈ deskKinds := by
  unfold putO at h
  split at h
  · split at h
    · split at h
      · split at h
        · exact putI_x h
        · cases h; decide +kernel
      · cases h; decide +kernel
    · cases h; decide +kernel
  · cases h; decide +kernel
theorem takeO_x {s : Dk} {d : PyData} {y : Str} (h : takeO s d = .inl y) : y ∈ deskKinds := by
  unfold takeO at h
  split at h
  · split at h
    · unfold takeI at h
      split at h
      · cases h; decide +kernel
      · cases h
    · cases h; decide +kernel
  · cases h; decide +kernel
theorem undoO_x {s : Dk} {y : Str} (h : undoO s = .inl y) : y ∈ deskKinds := by
  unfold undoO at h
  split at h
  · cases h; decide +kernel
  · cases h
theorem redoO_x {s : Dk} {y : Str} (h : redoO s = .inl y) : y ∈ deskKinds := by
  unfold redoO at h
  split at h
  · cases h; decide +kernel
  · cases h
/-- a call in a lambda, told -/
theorem ee_toldS {K : PySem.W.Frag} {T : TL} {ρ : List Sl} {xa : XA} {t : XK → TE} {s : Dk} {o : Dend} {q Cd : Addr} {i : Nat} (hT : T ≠ []) (hx : ∀ y, o = .inl y → Tt K xa y) (h : ∀ r st', says xa s o r st' → ERm T t ρ r (ρ.set i (.obj q Cd st'))) :
    EE T (tTold K xa T t) ρ (tell s o).1 (ρ.set i (.obj q Cd (eDk (tell s o).2))) := by
  cases o with
  | inl y => exact ee_toldMX hT (hx y rfl) (h _ _ ⟨rfl, rfl⟩)
  | inr y => exact ee_toldM hT (h _ _ ⟨rfl, rfl⟩)
theorem cut_one (x : PyData) (l : List PyData) : cutD (x :: l) none (some 1) = [x] := by rw [cut_to _ (by decide)]; rfl
theorem sh_e1 : SeqAt.shaped (.tuple [.str "error"]) = true := by decide +kernel
theorem eqv_err1 : PyData.eqv (.tuple [.str "error"]) (.tuple [.str "error"]) = true := by decide +kernel
theorem eqv_opt1 (o : Option Int) : PyData.eqv (.tuple [eO o]) (.tuple [.str "error"]) = false := by
  refine eqv_ne ?_ (by decide +kernel) (fun h => ?_)
  · exact pl_eN [o]
  · cases o <;> cases h
theorem sh_opt1 (o : Option Int) : SeqAt.shaped (.tuple [eO o]) = true := sh_eN [o]
/-- onward[:1] == ('error',) -/
def isErr : PyData → Bool
  | .tuple (.str _ :: _) => true
  | _ => false
theorem et_err {K : PySem.W.Frag} {T : TL} {ρ : List Sl} {tn : TE} {v : Wb} {ns : Nm} {i x : Int} (h : EE T tn ρ (nextO v ns i x) ρ) (h0 : 0 ≤ i) (h1 : i < ns.length) : EE T (tOp (rEqD K) (tSl (rSlA K) tn tNoPart (tPart (tC (.int 1)))) (tTup (tCons (tC (.str "error")) tNil))) ρ (.bool (isErr (nextO v ns i x))) ρ := by
  have key : (∃ y, nextO v ns i x = errD y) ∨ ∃ o ms, nextO v ns i x = .tuple (eO o :: ms) := by
    unfold nextO
    split
    · exact .inl ⟨_, rfl⟩
    · split
      · exact .inl ⟨_, rfl⟩
      · split
        · right
          have hl := withN_len (x := some x) h0 h1
          cases hw : withN ns i (some x) with
          | nil => rw [hw] at hl; simp at hl; omega
          | cons o ms => exact ⟨o, ms.map eO, rfl⟩
        · exact .inl ⟨_, rfl⟩
  rcases key with ⟨y, e⟩ | ⟨o, ms, e⟩
  · rw [e] at h ⊢
    have := ee_op (ee_slT (K := K) h eo_none (eo_some (ee_int (i := 1)))) (ee_tup (ea_1 (ee_str (i := "error"))) (by simp)) (re_eqD (K := K) (by rw [cut_one]; exact sh_e1) sh_e1)
    rw [cut_one, eqv_err1] at this
    exact this
  · rw [e] at h ⊢
    have := ee_op (ee_slT (K := K) h eo_none (eo_some (ee_int (i := 1)))) (ee_tup (ea_1 (ee_str (i := "error"))) (by simp)) (re_eqD (K := K) (by rw [cut_one]; exact sh_opt1 o) sh_e1)
    rw [cut_one, eqv_opt1] at this
    cases o <;> exact this
theorem doneO_put (s : Dk) (i x : Int) (h0 : 0 ≤ i) (h1 : i ≤ s.web.1 - 1) (k0 : 0 ≤ x) (k1 : x ≤ topW s.web) : doneO s "put" i x = putI s i x := by
  unfold doneO
  rw [if_pos rfl]
  show (if _ then _ else _) = _
  rw [if_pos (wholeB_of h0 h1)]
  show (if _ then _ else _) = _
  rw [if_pos (wholeB_of k0 k1)]
theorem doneO_take (s : Dk) (i x : Int) (h0 : 0 ≤ i) (h1 : i ≤ s.web.1 - 1) : doneO s "take" i x = takeI s i := by
  unfold doneO
  rw [if_neg (by decide), if_pos rfl]
  show (if _ then _ else _) = _
  rw [if_pos (wholeB_of h0 h1)]
theorem doneO_undo (s : Dk) (i x : Int) : doneO s "undo" i x = undoO s := by
  unfold doneO
  rw [if_neg (by decide), if_neg (by decide), if_pos rfl]
theorem doneO_redo (s : Dk) (i x : Int) : doneO s "redo" i x = redoO s := by
  unfold doneO
  rw [if_neg (by decide), if_neg (by decide), if_neg (by decide)]
theorem et_noerr {K : PySem.W.Frag} {T : TL} {ρ : List Sl} {tn : TE} {v : Wb} {ns : Nm} {i x : Int} (h : EE T tn ρ (nextO v ns i x) ρ) (h0 : 0 ≤ i) (h1 : i < ns.length) : EE T (tOp (rNeD K) (tSl (rSlA K) tn tNoPart (tPart (tC (.int 1)))) (tTup (tCons (tC (.str "error")) tNil))) ρ (.bool (!isErr (nextO v ns i x))) ρ := by
  have key : (∃ y, nextO v ns i x = errD y) ∨ ∃ o ms, nextO v ns i x = .tuple (eO o :: ms) := by
    unfold nextO
    split
    · exact .inl ⟨_, rfl⟩
    · split
      · exact .inl ⟨_, rfl⟩
      · split
        · right
          have hl := withN_len (x := some x) h0 h1
          cases hw : withN ns i (some x) with
          | nil => rw [hw] at hl; simp at hl; omega
          | cons o ms => exact ⟨o, ms.map eO, rfl⟩
        · exact .inl ⟨_, rfl⟩
  rcases key with ⟨y, e⟩ | ⟨o, ms, e⟩
  · rw [e] at h ⊢
    have := ee_op (ee_slT (K := K) h eo_none (eo_some (ee_int (i := 1)))) (ee_tup (ea_1 (ee_str (i := "error"))) (by simp)) (re_neD (K := K) (by rw [cut_one]; exact sh_e1) sh_e1)
    rw [cut_one, eqv_err1] at this
    exact this
  · rw [e] at h ⊢
    have := ee_op (ee_slT (K := K) h eo_none (eo_some (ee_int (i := 1)))) (ee_tup (ea_1 (ee_str (i := "error"))) (by simp)) (re_neD (K := K) (by rw [cut_one]; exact sh_opt1 o) sh_e1)
    rw [cut_one, eqv_opt1] at this
    cases o <;> exact this
theorem isErr_eN (ns : Nm) : isErr (eN ns) = false := by
  cases ns with
  | nil => rfl
  | cons o ns => cases o <;> rfl
/-- what may come, by the law -/
theorem may_is (s : Dk) (i : Int) : mayI s i = (ri 0 (topW s.web + 1).toNat).filter fun x => !isErr (nextO s.web s.now i x) := by
  unfold mayI nextO fitD
  cases (atN s.now i).isSome with
  | true =>
    simp only [if_true]
    symm
    rw [List.filter_eq_nil_iff]
    intro x _
    decide
  | false =>
    simp only [Bool.false_eq_true, if_false]
    refine List.filter_congr fun x _ => ?_
    cases s.now.contains (some x) with
    | true => rfl
    | false =>
      simp only [Bool.false_eq_true, if_false]
      cases unlikeK s.web (withN s.now i (some x)) with
      | true => simp only [if_true]; rw [isErr_eN]; rfl
      | false => rfl
/-! ### an operation keeps the desk -/
structure Kept (s s' : Dk) (d : PyData) (n : Nat) : Prop where
  ok : DkOk s' (n + 1)
  web : s'.web = s.web
  pl : pl d = true
  sh : SeqAt.shaped d = true
theorem errs_pl : ∀ y ∈ deskKinds, pl (errD y) = true ∧ SeqAt.shaped (errD y) = true := by decide +kernel
theorem kept_x {s : Dk} {n : Nat} (ok : DkOk s n) {y : Str} (h : y ∈ deskKinds) : Kept s (tell s (.inl y)).2 (tell s (.inl y)).1 n := ⟨ok.mono (Nat.le_succ n), rfl, (errs_pl y h).1, (errs_pl y h).2⟩
theorem sh_int (i : Int) : SeqAt.shaped (.int i) = true := shaped_of (pl_int i) (by simp [PyData.depth])
theorem done_ok {s : Dk} {n : Nat} (ok : DkOk s n) {nm : Str} {i x : Int} (hn : nm = "put" ∨ nm = "take" ∨ nm = "undo" ∨ nm = "redo") (h0 : 0 ≤ i) (h1 : i < s.web.1) (k0 : 0 ≤ x) (k1 : x < topW s.web + 1) : Kept s (doneD s nm i x).2 (doneD s nm i x).1 n := by
  have hl := ok.len
  unfold doneD
  rcases hn with rfl | rfl | rfl | rfl
  · rw [doneO_put s i x h0 (by omega) k0 (by omega)]
    cases e : putI s i x with
    | inl y => exact kept_x ok (putI_x e)
    | inr y =>
      unfold putI at e
      split at e
      · cases e
      · split at e
        · cases e
        · split at e
          · cases e
          · cases e
            have hw := withN_len (x := some x) h0 (show i < s.now.length by omega)
            exact ⟨chg_ok ok (by rw [hw]; exact hl), rfl, pl_int _, sh_int _⟩
  · rw [doneO_take s i x h0 (by omega)]
    unfold takeI
    cases e : atN s.now i with
    | none => exact kept_x ok (by decide +kernel)
    | some y =>
      have hw := withN_len (x := none) h0 (show i < s.now.length by omega)
      exact ⟨chg_ok ok (by rw [hw]; exact hl), rfl, pl_int _, sh_int _⟩
  · rw [doneO_undo]
    unfold undoO
    cases e : s.earlier.getLast? with
    | none => exact kept_x ok (by decide +kernel)
    | some ns =>
      have hm := List.mem_of_getLast? e
      have hpos : 0 < s.earlier.length := List.length_pos_of_mem hm
      refine ⟨⟨ok.ok, ok.le ns hm, fun m hm => ok.le m (List.dropLast_subset _ hm), fun m hm => ?_, ?_⟩, rfl, pl_eN _, sh_eN _⟩
      · rcases List.mem_append.mp hm with hm | hm
        · exact ok.lu m hm
        · have : m = s.now := by simpa using hm
          rw [this]; exact hl
      · have := ok.sz
        show s.earlier.dropLast.length + (s.undone ++ [s.now]).length ≤ n + 1
        rw [List.length_dropLast, List.length_append, List.length_singleton]
        omega
  · rw [doneO_redo]
    unfold redoO
    cases e : s.undone.getLast? with
    | none => exact kept_x ok (by decide +kernel)
    | some ns =>
      have hm := List.mem_of_getLast? e
      have hpos : 0 < s.undone.length := List.length_pos_of_mem hm
      refine ⟨⟨ok.ok, ok.lu ns hm, fun m hm => ?_, fun m hm => ok.lu m (List.dropLast_subset _ hm), ?_⟩, rfl, pl_eN _, sh_eN _⟩
      · rcases List.mem_append.mp hm with hm | hm
        · exact ok.le m hm
        · have : m = s.now := by simpa using hm
          rw [this]; exact hl
      · have := ok.sz
        show (s.earlier ++ [s.now]).length + s.undone.dropLast.length ≤ n + 1
        rw [List.length_dropLast, List.length_append, List.length_singleton]
        omega
theorem turn_ok {s : Dk} {n : Nat} (ok : DkOk s n) (D : Dc) : Kept s (turnM D s).1.2 (turnM D s).1.1 n := by
  have g := good_of ok.ok
  have h1 := g.lo
  have ht : 0 ≤ topW s.web := by unfold topW; omega
  exact done_ok ok (name_of (rollV_lo D (by decide)) (rollV_hi D (by decide))) (rollV_lo _ (by omega)) (rollV_hi _ (by omega)) (rollV_lo _ (by omega)) (rollV_hi _ (by omega))
/-- so many turns -/
def runs (S : Dc × Dk) (pre : List Int) : Dc × Dk := pre.foldl (fun S _ => ((turnM S.1 S.2).2, (turnM S.1 S.2).1.2)) S
theorem runs_snoc (S : Dc × Dk) (pre : List Int) (x : Int) : runs S (pre ++ [x]) = ((turnM (runs S pre).1 (runs S pre).2).2, (turnM (runs S pre).1 (runs S pre).2).1.2) := by
  unfold runs
  rw [List.foldl_append]
  rfl
theorem runs_ok : ∀ (pre : List Int) (S : Dc × Dk) (n : Nat), DkOk S.2 n → DkOk (runs S pre).2 (n + pre.length) ∧ (runs S pre).2.web = S.2.web
  | [], S, n, h => ⟨h, rfl⟩
  | x :: pre, S, n, h => by
    have k := turn_ok h S.1
    obtain ⟨h1, h2⟩ := runs_ok pre ((turnM S.1 S.2).2, (turnM S.1 S.2).1.2) (n + 1) k.ok
    refine ⟨?_, h2.trans k.web⟩
    have e : n + (x :: pre).length = n + 1 + pre.length := by simp; omega
    rw [e]
    exact h1
theorem start_ok {v : Wb} (h : okW v = true) : DkOk ⟨v, List.replicate v.1.toNat none, [], []⟩ 0 := by
  have := (good_of h).lo
  exact ⟨h, by show ((List.replicate v.1.toNat (none : Option Int)).length : Int) = v.1; rw [List.length_replicate]; omega, (fun _ h => by cases h), (fun _ h => by cases h), Nat.le_refl 0⟩
/-- what is no place, no number -/
theorem badP {n : Int} : ∀ d ∈ ([.int (-1), .int n, .bool true, .none] : List PyData), wholeB d 0 (n - 1) = false := by
  intro d hd
  simp only [List.mem_cons, List.not_mem_nil, or_false] at hd
  rcases hd with rfl | rfl | rfl | rfl
  · unfold wholeB; simp
  · unfold wholeB; simp; omega
  · rfl
  · rfl
theorem putO_bad {s : Dk} {d e : PyData} (h : wholeB d 0 (s.web.1 - 1) = false) : putO s d e = .inl "InvalidPlace" := by
  unfold putO
  split
  · rw [if_neg (by rw [h]; decide)]
  · rfl
theorem mayO_bad {s : Dk} {d : PyData} (h : wholeB d 0 (s.web.1 - 1) = false) : mayO s d = .inl "InvalidPlace" := by
  unfold mayO
  split
  · rw [if_neg (by rw [h]; decide)]
  · rfl
theorem putO_num {s : Dk} {i : Int} {e : PyData} (h : wholeB (.int i) 0 (s.web.1 - 1) = true) (h2 : wholeB e 0 (topW s.web) = false) : putO s (.int i) e = .inl "InvalidNumber" := by
  show (if _ then _ else _) = _
  rw [if_pos h]
  split
  · rw [if_neg (by rw [h2]; decide)]
  · rfl
/-- a, b, c, d, e = t -/
theorem eg_tup5 {K : PySem.W.Frag} {T : TL} {ρ : List Sl} {a b c d e : Nat} {x1 x2 x3 x4 x5 : PyData} : EG T (gTup K 5 (gCons (gName a) (gCons (gName b) (gCons (gName c) (gCons (gName d) (gCons (gName e) gNil)))))) (.tuple [x1, x2, x3, x4, x5]) ρ (((((ρ.set a (.dat x1)).set b (.dat x2)).set c (.dat x3)).set d (.dat x4)).set e (.dat x5)) := fun F W B H σ v Q E q k => by
  obtain ⟨r, xs, e1, e2, q⟩ := q.inv_tup
  refine ⟨r, xs, e1, SqT.of (E.bh _ _ e2), q.length, ?_⟩
  cases q with
  | cons q1 q =>
    cases q with
    | cons q2 q =>
      cases q with
      | cons q3 q =>
        cases q with
        | cons q4 q =>
          cases q with
          | cons q5 q =>
            cases q
            exact ⟨_, _, rfl, _, _, rfl, _, _, rfl, _, _, rfl, _, _, rfl, rfl, k _ (((((E.set q1).set q2).set q3).set q4).set q5)⟩
end U
namespace U
open PySem PySem.Spec PyProof.Rows L2 LamX DL
/-- the end of a law with lambdas in two defs -/
theorem walkT2 {l : PySem.W.OpenLaw} {k : Nat} {q : Program} {loose : List Str} {XP : (Str → Option Value) → Heap → Prop} {d : DefRec} {K : Params → PySem.W.Frag} {as : List Addr} {ek : ∀ P, as = (K P).map (·.1)} {P1 P2 : Addr} (hn : l.most = some 63) (hdf : d.params.defaults = []) (hr : Room k callerA)
    (F : ∀ (w : World) (mg : Str → Option Value) (fa : Addr) (h : Heap), (K w.params).In h → h.Ns mainGlobals mg → mg d.name = some (.ref fa) →
      ∃ (fd : FuncData) (c1 c2 : Addr), (PySem.W.codeHdIn (K w.params) c1 P1 = true ∧ (K w.params).lookup P1 = none) ∧ (PySem.W.codeHdIn (K w.params) c2 P2 = true ∧ (K w.params).lookup P2 = none) ∧ (∀ (s : Shared) (u : Value), BindsTo s fd ⟨[u], []⟩ [("script", u)]) ∧
        ∀ base : Heap, (K w.params).In base → base.Ns mainGlobals mg → TabB base mg c1 P1 → TabB base mg c2 P2 → FnOk l.prog w (K w.params) mg base CX0 k fa fd ["script"] (spLaw (K w.params) (T2 P1 P2))) :
    PySem.W.WalkO q loose XP (PySem.W.kmHook K as ek [P1, P2]).says l.row.toRowW d [] (fun f vs => PySem.call f vs) := by
  refine Att.attach_callB hn hdf fun w s₀ s₁ mg mb fa o pm cd doc a vs ns G Y ho hd hcd hmg hobj hints hlen hbits hg => ?_
  have KX := PySem.W.km_in_of Y
  have T0 := PySem.W.km_tabs_of Y P1 (.head _)
  have T1 := PySem.W.km_tabs_of Y P2 (.tail _ (.head _))
  obtain ⟨fd, c1, c2, ⟨ht1, hP1⟩, ⟨ht2, hP2⟩, hb, hF⟩ := F w mg fa _ KX G.T.g hmg
  have C1 := PySem.W.codeHd_of_K KX ht1
  have C2 := PySem.W.codeHd_of_K KX ht2
  have two : ∀ {Z : Addr × Addr → Prop}, Z (c1, P1) → Z (c2, P2) → ∀ p ∈ [(c1, P1), (c2, P2)], Z p := fun z1 z2 p hp => by
    cases hp with
    | head => exact z1
    | tail _ h =>
      cases h with
      | head => exact z2
      | tail _ h => cases h
  refine law_callTs (cs := [(c1, P1), (c2, P2)]) KX G.T.g G.T.b G.T.builtins G.T.nolimit hg (two T0 T1) (two hP1 hP2) (two C1 C2) G.T.bmain hobj hints (Nat.le_trans hlen (by decide)) hr (fun base KB hB tb => hF base KB hB (tb (c1, P1) (.head _)) (tb (c2, P2) (.tail _ (.head _)))) hb (fun H hH hS => ⟨a, ns, rfl, hS, hlen, fun p hp => ?_, fun _ => rfl⟩) fun H e s' z => z
  have z1 := hH (c1, P1) (.head _)
  have z2 := hH (c2, P2) (.tail _ (.head _))
  cases hp with
  | head => exact TabS.nil z1
  | tail _ h =>
    cases h with
    | head => exact TabS.nil z2
    | tail _ h => cases h
theorem mfn_mk {K : PySem.W.Frag} {C f : Addr} {m qual : Str} {st : Stmt} {oc : Value} {od an : Option Addr} {osl : Array (Option Value)} {kV doc pm cdv ct : Value} (a : PySem.W.findIn K (.ref C) m = some (some (.ref f))) (n : PySem.W.isFn K (.ref f) = true) (k : PySem.W.keepIn K (.ref f) = true)
    (l : K.lookup f = some ⟨oc, od, .func (PySem.W.fnOf m qual (defArgs st) (defBody st) (defScope st) .none kV doc pm an cdv ct), osl⟩) (c : PySem.W.codeIn K cdv qual = true) : MFn K C m qual st := ⟨f, _, fun_mk l c k, a, n, k⟩
theorem fnc_mk {K : PySem.W.Frag} {h : Heap} {mg : Str → Option Value} {x : Str} {st : Stmt} {f c : Addr} {oc : Value} {od an : Option Addr} {osl : Array (Option Value)} {kV doc pm ct : Value} (X : K.In h) (G : h.Ns mainGlobals mg) (a : PySem.W.nsIn K mainGlobals x = some (some (.ref f)))
    (l : K.lookup f = some ⟨oc, od, .func (PySem.W.fnOf x x (defArgs st) (defBody st) (defScope st) .none kV doc pm an (.ref c) ct), osl⟩) (cd : PySem.W.codeIn K (.ref c) x = true) (k : PySem.W.keepIn K (.ref f) = true) : FnC K mg x st c := ⟨f, oc, od, an, kV, doc, pm, ct, osl, l, cd, PySem.W.mg_of X G a, k⟩
/-- what the end must give of the class -/
structure DkF (K : PySem.W.Frag) (C : Addr) : Prop where
  dk : DeskC K C
  ms : PySem.W.makesIn K C = true
  kp : PySem.W.keepIn K (.ref C) = true
theorem dkf_mk {K : PySem.W.Frag} {C : Addr} (a1 : PySem.W.plainGet K C Str.empty = true) (a2 : PySem.W.hasDictIn K C = true) (a3 : PySem.W.plainOver K C = true) (a4 : PySem.W.findIn K (.ref C) "__setattr__" = some (some (.builtin "object.__setattr__")))
    (b1 : PySem.W.findIn K (.ref C) "web" = some none) (b2 : PySem.W.findIn K (.ref C) "now" = some none) (b3 : PySem.W.findIn K (.ref C) "earlier" = some none) (b4 : PySem.W.findIn K (.ref C) "undone" = some none)
    (c1 : PySem.W.makesIn K C = true) (c2 : PySem.W.keepIn K (.ref C) = true) : DkF K C := ⟨⟨⟨a1, a2, a3, a4⟩, b1, b2, b3, b4⟩, c1, c2⟩
end U
namespace U
open PySem L2 PyProof.Rows DL
open Evl (Ex)
open LamX (lamS_by)
section
variable {P : Program} {w : World} {K : PySem.W.Frag} {mg : Str → Option Value} {base : Heap} {xa : Str → Addr} {Cd cd Pd Pt : Addr}
abbrev s_Desk___init__ : Stmt := methS (topS 40) 0
theorem sc_Desk___init__ : FnScope ["self", "web"] ["self", "web"] (defScope s_Desk___init__) := ⟨rfl, rfl, rfl, by decide +kernel, rfl, by decide +kernel, by decide +kernel⟩
theorem bd_Desk___init__ : BindsM "__init__" "Desk.__init__" s_Desk___init__ ["self", "web"] := fun _ _ _ _ _ _ us hl => match us, hl with | [_, _], _ => rfl

def R_Desk___init__ (xa : XA) : Fs → List PyData → Res → Fs → Prop := fun st ds r st' => ∃ (v : Wb), st = [] ∧ ds = [eW v] ∧ okW v = true ∧ r = .ok .none ∧ st' = eDk ⟨v, List.replicate v.1.toNat none, [], []⟩
theorem rep_none (n : Nat) : (List.replicate n [PyData.none]).flatten = (List.replicate n (none : Option Int)).map eO := by
  induction n with
  | zero => rfl
  | succ n ih => rw [List.replicate_succ, List.flatten_cons, ih, List.replicate_succ, List.map_cons]; rfl
theorem ee_empty {T : TL} {ρ : List Sl} {v : Wb} {tv : TE} (g : GoodW v) (h : EE T tv ρ (.int v.1) ρ) : EE T (tOp (rRep1 K) (tTup (tCons (tC .non) tNil)) tv) ρ (eN (List.replicate v.1.toNat none)) ρ := by
  have h1 := g.lo
  have h2 := g.hi
  have := ee_op (ee_tup (ea_1 ee_non) (by simp)) h (re_rep (K := K) (ds := [.none]) (by simp) (by omega) (by omega) (by simp))
  rw [rep_none] at this
  exact this
theorem ok_Desk___init__ (F : MFn K Cd "__init__" "Desk.__init__" s_Desk___init__) (B : Bt mg) (dk : DeskC K Cd) (c_need_web : Cal P w K mg base 4 "need_web" ["web"] (spP (R_need_web xa))) : CalM P w K mg base 5 Cd "__init__" ["self", "web"] (spM Cd (R_Desk___init__ xa)) :=
  calMm F sc_Desk___init__ bd_Desk___init__ (fun cs ds r cs' ⟨_, _, e, _⟩ => by rw [e]; rfl) fun f cdv A outer s H E hr => by
  refine ⟨_, (pss_cons (ps_expr (pe_calX (E := E) c_need_web (hr.mono (by decide)) (by rfl) (takesN rfl rfl rfl rfl) (pa_cons (pv 1) pa_nil)))
      (PSs.nox (pss_cons (sfldK (K := K) rfl (pv 0) (pv 1))
      (pss_cons (sfldK (K := K) rfl (pv 0) (pe_op (repK (K := K) rfl) (pe_tup (pa_cons pe_non pa_nil)) (pe_ix (ixT (K := K) rfl) (pv 1) pe_int (fun _ _ => rfl))))
      (pss_cons (sfldK (K := K) rfl (pv 0) (pe_lst pa_nil))
      (pss_one (sfldK (K := K) rfl (pv 0) (pe_lst pa_nil)))))))), fun p cs ds r cs' ⟨v, e1, e2, ok, e3, e4⟩ => ?_⟩
  subst e1 e2 e3 e4
  have g := good_of ok
  have hwb := webB_true ok
  exact ⟨_, ss_seq (ss_drop (ee_call (E := E) (R := R_need_web xa) (ea_1 (ee_var rfl)) ⟨eW v, rfl, small_of g, by unfold needWeb; rw [if_pos hwb]⟩)) (ss_seq (ss_fld (ee_var rfl) rfl rfl dk.cls dk.web (by decide)) (ss_seq (ss_fld (ee_empty g (ee_w0 (i := 1) rfl)) rfl rfl dk.cls dk.now (by show 1 < 1000; decide)) (ss_seq (ss_fld (el_lst ea_nil (by decide)).ee rfl rfl dk.cls dk.earlier (by show 2 < 1000; decide)) (ss_fld (el_lst ea_nil (by decide)).ee rfl rfl dk.cls dk.undone (by show 3 < 1000; decide))))), rfl, rfl⟩

end
end U
namespace U
open PySem L2 PyProof.Rows DL
open Evl (Ex)
open LamX (lamS_by)
section
variable {P : Program} {w : World} {K : PySem.W.Frag} {mg : Str → Option Value} {base : Heap} {xa : Str → Addr} {Cd cd Pd Pt : Addr}
abbrev s_law_drawn : Stmt := topS 70
theorem sc_law_drawn : FnScope ["cell", "k", "more"] ["cell", "k"] (defScope s_law_drawn) := ⟨rfl, rfl, rfl, by decide +kernel, rfl, by decide +kernel, by decide +kernel⟩
theorem bd_law_drawn : BindsAs "_law_drawn" s_law_drawn ["cell", "k"] := fun _ _ _ _ _ _ us hl => match us, hl with | [_, _], _ => rfl

def R_law_drawn : List PyData → Res → Prop := fun ds r => ∃ c k : Int, ds = [.int c, .int k] ∧ r = .ok (.int (drawn c k))
theorem natAbs_lt_of {i : Int} {n : Nat} (h0 : 0 ≤ i) (h : i < 2 ^ n) : i.natAbs < 2 ^ n := by
  have e : (i.natAbs : Int) = i := Int.natAbs_of_nonneg h0
  have h2 : ((2 ^ n : Nat) : Int) = (2 : Int) ^ n := by simp
  omega
theorem ok_law_drawn (F : Fn K mg "_law_drawn" s_law_drawn) (B : Bt mg) : Cal P w K mg base 1 "_law_drawn" ["cell", "k"] (spP R_law_drawn) :=
  calQ F sc_law_drawn bd_law_drawn (fun ds r ⟨_, _, e, _⟩ => by rw [e]; rfl) fun f cdv A outer s H E hr => by
  refine ⟨_, (pss_cons (ps_set (i := 2) sc_law_drawn.nd rfl (Or.inl rfl) (pe_op op_mod (pe_op op_add (pe_op op_mul (pv 0) pe_int) (pe_op op_mul (pe_op op_add (pv 1) pe_int) pe_int)) pe_int))
      (pss_cons (ps_set (i := 2) sc_law_drawn.nd rfl (Or.inl rfl) (pe_op op_mod (pe_op op_mulW (pv 2) (pv 2)) pe_int))
      (pss_cons (ps_set (i := 2) sc_law_drawn.nd rfl (Or.inl rfl) (pe_op op_mulW (pe_op op_mulW (pe_op op_add (pe_op op_mod (pv 2) pe_int) pe_int) (pe_op op_add (pe_op op_fdivW (pv 2) pe_int) pe_int)) (pv 2)))
      (pss_one (ps_ret (pe_op op_mod (pv 2) pe_int)))))), fun ds r ⟨c, k, e1, e2⟩ => ?_⟩
  subst e1 e2
  have p1 : (0 : Int) < 340282366920938463463374607431768211507 := by decide
  have p2 : (0 : Int) < 340282366920938463463374607431768211297 := by decide
  have p3 : (0 : Int) < 18446744073709551557 := by decide
  generalize ha : (c * 6364136223846793005 + (k + 1) * 1442695040888963407) % 340282366920938463463374607431768211507 = a
  have a0 : 0 ≤ a := by rw [← ha]; exact Int.emod_nonneg _ (by decide)
  have a1 : a < 2 ^ 129 := by rw [← ha]; exact Int.lt_trans (Int.emod_lt_of_pos _ p1) (by decide)
  have na := natAbs_lt_of a0 a1
  generalize hb : a * a % 340282366920938463463374607431768211297 = b
  have b0 : 0 ≤ b := by rw [← hb]; exact Int.emod_nonneg _ (by decide)
  have b1 : b < 340282366920938463463374607431768211297 := by rw [← hb]; exact Int.emod_lt_of_pos _ p2
  have nb := natAbs_lt_of (n := 128) b0 (Int.lt_trans b1 (by decide))
  have x0 : 0 ≤ b % 18446744073709551557 := Int.emod_nonneg _ (by decide)
  have x1 : b % 18446744073709551557 < 18446744073709551557 := Int.emod_lt_of_pos _ p3
  have nx := natAbs_lt_of (i := b % 18446744073709551557 + 1) (n := 65) (by omega) (by omega)
  have y0 : 0 ≤ b / 18446744073709551557 := Int.ediv_nonneg b0 (by decide)
  have y1 : b / 18446744073709551557 ≤ b := Int.ediv_le_self _ b0
  have ny := natAbs_lt_of (i := b / 18446744073709551557 + 1) (n := 129) (by omega) (by omega)
  have nxy := wide_lt nx ny
  have e : drawn c k = ((b % 18446744073709551557 + 1) * (b / 18446744073709551557 + 1) * b) % 340282366920938463463374607431768211507 := by
    unfold drawn M1 M2 M3
    simp only [ha, hb]
  rw [e]
  exact ⟨_, ss_seq (ss_set (EE.is (ee_op (ee_op (ee_op (ee_var rfl) ee_int (re_mulR (by decide))) (ee_op (ee_op (ee_var rfl) ee_int re_add) ee_int (re_mulR (by decide))) re_add) ee_int (re_mod p1)) (congrArg PyData.int ha)))
    (ss_seq (ss_set (EE.is (ee_op (ee_op (ee_var rfl) (ee_var rfl) (re_I (wide_mul na na (by decide) (by decide) (by decide)) fun _ => .int _)) ee_int (re_mod p2)) (congrArg PyData.int hb)))
    (ss_seq (ss_set (ee_op (ee_op (ee_op (ee_op (ee_var rfl) ee_int (re_mod p3)) ee_int re_add) (ee_op (ee_op (ee_var rfl) ee_int (re_I (wide_div p3 (natAbs_lt_of (n := 65) (by decide) (by decide)) (by decide) (by decide)) fun _ => .int _)) ee_int re_add) (re_I (wide_mul nx ny (by decide) (by decide) (by decide)) fun _ => .int _)) (ee_var rfl) (re_I (wide_mul nxy nb (by decide) (by decide) (by decide)) fun _ => .int _)))
    (ss_ret (ee_op (ee_var rfl) ee_int (re_mod p1))))), rfl⟩

end
end U
namespace U
open PySem L2 PyProof.Rows DL
open Evl (Ex)
open LamX (lamS_by)
section
variable {P : Program} {w : World} {K : PySem.W.Frag} {mg : Str → Option Value} {base : Heap} {xa : Str → Addr} {Cd cd Pd Pt : Addr}
abbrev s_law_roll : Stmt := topS 71
theorem sc_law_roll : FnScope ["dice", "many", "told"] ["dice", "many"] (defScope s_law_roll) := ⟨rfl, rfl, rfl, by decide +kernel, rfl, by decide +kernel, by decide +kernel⟩
theorem bd_law_roll : BindsAs "_law_roll" s_law_roll ["dice", "many"] := fun _ _ _ _ _ _ us hl => match us, hl with | [_, _], _ => rfl

def R_law_roll : List PyData → List PyData → Res → List PyData → Prop := fun cs ds r cs' => ∃ (d : Dc) (m : Int), cs = eD d ∧ ds = [.int m] ∧ 0 < m ∧ m < 1000000 ∧ r = .ok (.int (rollV d m)) ∧ cs' = eD (rollS d m)
theorem ok_law_roll (F : Fn K mg "_law_roll" s_law_roll) (B : Bt mg) (c__law_drawn : Cal P w K mg base 1 "_law_drawn" ["cell", "k"] (spP R_law_drawn)) : Cal P w K mg base 2 "_law_roll" ["dice", "many"] (spO R_law_roll) :=
  calO F sc_law_roll bd_law_roll (fun cs ds r cs' ⟨_, _, _, e, _⟩ => by rw [e]; rfl) fun f cdv A outer s H E hr => by
  refine ⟨_, (pss_cons (ps_if (pt_cmpR op_ge (pe_ix (ixL (K := K) rfl) (pv 0) pe_int (fun _ _ => rfl)) (pe_op op_pow pe_int pe_int) (nomark _)) (pss_cons (ps_set (i := 2) sc_law_roll.nd rfl (Or.inl rfl) (pe_op op_mod (pe_ix (ixL (K := K) rfl) (pv 0) pe_int (fun _ _ => rfl)) (pv 1)))
      (pss_cons (ps_asg (pe_op op_fdiv (pe_ix (ixL (K := K) rfl) (pv 0) pe_int (fun _ _ => rfl)) (pv 1)) (pg_sub (pv 0) pe_int set_list))
      (pss_one (ps_ret (pv 2))))) pss_nil)
      (pss_cons (ps_asg (pe_op op_add (pe_ix (ixL (K := K) rfl) (pv 0) pe_int (fun _ _ => rfl)) pe_int) (pg_sub (pv 0) pe_int set_list))
      (pss_one (ps_ret (pe_op op_mod (pe_op op_fdiv (pe_cal c__law_drawn (hr.mono (by decide)) (by rfl) (pa_cons (pe_ix (ixL (K := K) rfl) (pv 0) pe_int (fun _ _ => rfl)) (pa_cons (pe_ix (ixL (K := K) rfl) (pv 0) pe_int (fun _ _ => rfl)) pa_nil))) pe_int) (pv 1)))))), fun p cs ds r cs' ⟨d, m, e1, e2, h0, h1, e3, e4⟩ => ?_⟩
  subst e1 e2 e3 e4
  have tt := et_test (T := []) (ee_op (ee_ixOwn (K := K) (ρ := slotsO p 3 (eD d) [.int m]) (i := 0) rfl (ee_int (i := 0)) rfl (d := .int d.1) rfl) (ee_op (ee_int (i := 10)) (ee_int (i := 18)) (re_I (C := CPow) (g := fun i j => .int (i ^ j.toNat)) ⟨by decide, by decide, by decide⟩ fun _ => .int _)) re_ge)
  by_cases hc : 1000000000000000000 ≤ d.1
  · have e1 : rollV d m = d.1 % m := by unfold rollV; rw [if_pos hc]
    have e2 : rollS d m = (d.1 / m, d.2) := by unfold rollS; rw [if_pos hc]
    rw [e1, e2]
    exact ⟨_, ss_seqR (ss_if (tt.is (decide_eq_true (show (10 : Int) ^ (18 : Int).toNat ≤ d.1 from hc))) (fun _ => ss_seq (ss_set (ee_op (ee_ixOwn rfl ee_int rfl (d := .int d.1) rfl) (ee_var rfl) (re_mod h0))) (ss_seq (ss_setOwn (n := 0) (ee_op (ee_ixOwn rfl ee_int rfl (d := .int d.1) rfl) (ee_var rfl) (re_fdiv h0 (by omega))) rfl ee_int rfl) (ss_ret (ee_var rfl)))) (fun h => by cases h)), rfl, rfl⟩
  · have e1 : rollV d m = drawn d.1 (d.2 + 1) / 8 % m := by unfold rollV; rw [if_neg hc]
    have e2 : rollS d m = (d.1, d.2 + 1) := by unfold rollS; rw [if_neg hc]
    rw [e1, e2]
    exact ⟨_, ss_seq (ss_if (tt.is (decide_eq_false (show ¬ (10 : Int) ^ (18 : Int).toNat ≤ d.1 from hc))) (fun h => by cases h) (fun _ => ss_next)) (ss_seq (ss_setOwn (n := 1) (ee_op (ee_ixOwn rfl ee_int rfl (d := .int d.2) rfl) ee_int re_add) rfl ee_int rfl) (ss_ret (ee_op (ee_op (ee_call (ea_2 (ee_ixOwn rfl ee_int rfl (d := .int d.1) rfl) (ee_ixOwn rfl ee_int rfl (d := .int (d.2 + 1)) rfl)) ⟨d.1, d.2 + 1, rfl, rfl⟩) ee_int (re_fdiv (by decide) (by decide))) (ee_var rfl) (re_mod h0)))), rfl, rfl⟩
theorem roll_ok {D : Dc} {m : Int} (h : 0 < m) (h2 : m < 1000000) : R_law_roll (eD D) [.int m] (.ok (.int (rollV D m))) (eD (rollS D m)) := ⟨D, m, rfl, rfl, h, h2, rfl, rfl⟩

end
end U
namespace U
open PySem L2 PyProof.Rows DL
open Evl (Ex)
open LamX (lamS_by)
section
variable {P : Program} {w : World} {K : PySem.W.Frag} {mg : Str → Option Value} {base : Heap} {xa : Str → Addr} {Cd cd Pd Pt : Addr}
abbrev s_need_place : Stmt := topS 31
theorem sc_need_place : FnScope ["web", "place"] ["web", "place"] (defScope s_need_place) := ⟨rfl, rfl, rfl, by decide +kernel, rfl, by decide +kernel, by decide +kernel⟩
theorem bd_need_place : BindsAs "need_place" s_need_place ["web", "place"] := fun _ _ _ _ _ _ us hl => match us, hl with | [_, _], _ => rfl

def R_need_place (xa : XA) : List PyData → Res → Prop := fun ds r => ∃ (v : Wb) (d : PyData), ds = [eW v, d] ∧ r = (if wholeB d 0 (v.1 - 1) = true then .ok .none else .ex (xa "InvalidPlace"))
theorem ok_need_place (F : Fn K mg "need_place" s_need_place) (B : Bt mg) (x_InvalidPlace : Xc K mg "InvalidPlace" (xa "InvalidPlace")) (c_is_whole : Cal P w K mg base 1 "is_whole" ["value", "low", "high"] (spP R_is_whole)) : Cal P w K mg base 2 "need_place" ["web", "place"] (spP (R_need_place xa)) :=
  calP F sc_need_place bd_need_place (fun ds r ⟨_, _, e, _⟩ => by rw [e]; rfl) fun f cdv A outer s H E hr => by
  refine ⟨_, (pss_one (ps_if (pt_not (pt_val (pe_cal c_is_whole (hr.mono (by decide)) (by rfl) (pa_cons (pv 1) (pa_cons pe_int (pa_cons (pe_op op_sub (pe_ix (ixT (K := K) rfl) (pv 0) pe_int (fun _ _ => rfl)) pe_int) pa_nil)))))) (pss_one (ps_raiseC (E := E) x_InvalidPlace rfl (by rfl) (takesN rfl rfl rfl rfl))) pss_nil)), fun ds r ⟨v, d, e1, e2⟩ => ?_⟩
  subst e1 e2
  have t := et_not (et_B (ee_call (T := []) (E := E0) (R := R_is_whole) (ea_3 (ee_var (ρ := slots 2 [eW v, d]) (i := 1) rfl) (ee_int (i := 0)) (ee_op (ee_op (ee_var (i := 0) rfl) (ee_int (i := 0)) (re_ixT (K := K) (d := .int v.1) rfl)) (ee_int (i := 1)) re_sub)) ⟨d, 0, v.1 - 1, rfl, rfl⟩))
  cases h : wholeB d 0 (v.1 - 1) with
  | true =>
    rw [h] at t
    exact ⟨_, ss_if t (fun h => by cases h) (fun _ => ss_next), rfl⟩
  | false =>
    rw [h] at t
    exact ⟨_, ss_if t (fun _ => ss_raiseC) (fun h => by cases h), rfl⟩

end
end U
namespace U
open PySem L2 PyProof.Rows DL
open Evl (Ex)
open LamX (lamS_by)
section
variable {P : Program} {w : World} {K : PySem.W.Frag} {mg : Str → Option Value} {base : Heap} {xa : Str → Addr} {Cd cd Pd Pt : Addr}
abbrev s_top_of : Stmt := topS 25
theorem sc_top_of : FnScope ["web"] ["web"] (defScope s_top_of) := ⟨rfl, rfl, rfl, by decide +kernel, rfl, by decide +kernel, by decide +kernel⟩
theorem bd_top_of : BindsAs "top_of" s_top_of ["web"] := fun _ _ _ _ _ _ us hl => match us, hl with | [_], _ => rfl

def R_top_of : List PyData → Res → Prop := fun ds r => ∃ v : Wb, ds = [eW v] ∧ r = .ok (.int (topW v))
theorem ok_top_of (F : Fn K mg "top_of" s_top_of) (B : Bt mg) : Cal P w K mg base 1 "top_of" ["web"] (spP R_top_of) :=
  calQ F sc_top_of bd_top_of (fun ds r ⟨_, e, _⟩ => by rw [e]; rfl) fun f cdv A outer s H E hr => by
  refine ⟨_, (pss_one (ps_ret (pe_callB (lenK (K := K) rfl) (by rfl) B.len bb_len (pa_cons (pe_ix (ixT (K := K) rfl) (pv 0) pe_int (fun _ _ => rfl)) pa_nil)))), fun ds r ⟨v, e1, e2⟩ => ?_⟩
  subst e1 e2
  refine ⟨_, ss_ret (ee_cb (ea_1 (ee_op (ee_var rfl) ee_int (re_ixT (d := ePs v.2) rfl))) rb_lenT), ?_⟩
  show _ = _
  rw [List.length_map]
  rfl

end
end U
namespace U
open PySem L2 PyProof.Rows DL
open Evl (Ex)
open LamX (lamS_by)
section
variable {P : Program} {w : World} {K : PySem.W.Frag} {mg : Str → Option Value} {base : Heap} {xa : Str → Addr} {Cd cd Pd Pt : Addr}
abbrev s_known_lines : Stmt := topS 37
theorem sc_known_lines : FnScope ["web", "numbers", "found", "first", "last"] ["web", "numbers"] (defScope s_known_lines) := ⟨rfl, rfl, rfl, by decide +kernel, rfl, by decide +kernel, by decide +kernel⟩
theorem bd_known_lines : BindsAs "known_lines" s_known_lines ["web", "numbers"] := fun _ _ _ _ _ _ us hl => match us, hl with | [_, _], _ => rfl

def R_known_lines : List PyData → Res → Prop := fun ds r => ∃ (v : Wb) (ns : Nm), ds = [eW v, eN ns] ∧ EndsW v ns.length ∧ v.2.length ≤ 1000 ∧ r = .ok (eL (knownN v ns))
theorem ok_known_lines (F : Fn K mg "known_lines" s_known_lines) (B : Bt mg) : Cal P w K mg base 1 "known_lines" ["web", "numbers"] (spP R_known_lines) :=
  calQ F sc_known_lines bd_known_lines (fun ds r ⟨_, _, e, _⟩ => by rw [e]; rfl) fun f cdv A outer s H E hr => by
  refine ⟨_, (pss_cons (ps_set (i := 2) sc_known_lines.nd rfl (Or.inl rfl) (pe_lst pa_nil))
      (pss_cons (ps_for PassesOwn.never rfl (piT (K := K) rfl (pe_ix (ixT (K := K) rfl) (pv 0) pe_int (fun _ _ => rfl))) (pgT (K := K) rfl rfl (pgs_cons (pg_name (i := 3) sc_known_lines.nd rfl (Or.inl rfl)) (pgs_cons (pg_name (i := 4) sc_known_lines.nd rfl (Or.inl rfl)) pgs_nil))) (pss_one (ps_if (PW.pt (pw_and (pt_cmpR op_notN (pe_ix (ixT (K := K) rfl) (pv 1) (pv 3) (fun _ _ => rfl)) pe_non (nomark _)) (pw_and1 (pt_cmpR op_notN (pe_ix (ixT (K := K) rfl) (pv 1) (pv 4) (fun _ _ => rfl)) pe_non (nomark _))))) (pss_one (ps_expr (appK (K := K) rfl (pv 2) (pa_cons (pe_callB call_abs (by rfl) B.abs bb_abs (pa_cons (pe_op op_sub (pe_ix (ixT (K := K) rfl) (pv 1) (pv 3) (fun _ _ => rfl)) (pe_ix (ixT (K := K) rfl) (pv 1) (pv 4) (fun _ _ => rfl))) pa_nil)) pa_nil)))) pss_nil)))
      (pss_one (ps_ret (pv 2))))), fun ds r ⟨v, ns, e1, he, hl, e2⟩ => ?_⟩
  subst e1 e2
  refine ⟨_, ss_seq (ss_own (el_lst ea_nil (by decide))) (ss_seq (ss_forT (ds := v.2.map eP) (ee_w1 rfl) (o := .nx [.dat (eW v), .dat (eN ns), .own none ((v.2.filterMap (lineN ns)).map PyData.int), .no, .no]) (forR_pre eP (fun pre => [.dat (eW v), .dat (eN ns), .own none ((pre.filterMap (lineN ns)).map PyData.int), .no, .no]) v.2 fun pr q post e => ?_)) (ss_give (i := 2) rfl (ss_ret (ee_var rfl)))), rfl⟩
  have hq : q ∈ v.2 := by rw [e]; simp
  have hb := he q hq
  have hpl : (pr.filterMap (lineN ns)).length < 1001 := by
    have h1 := List.length_filterMap_le (lineN ns) pr
    have h2 := congrArg List.length e
    rw [List.length_append, List.length_cons] at h2
    omega
  have x1 := ee_op (T := []) (ee_var (ρ := [.dat (eW v), .dat (eN ns), .own none ((pr.filterMap (lineN ns)).map PyData.int), .dat (.int q.1), .dat (.int q.2)]) (i := 1) rfl) (ee_var (i := 3) rfl) (re_ixT (K := K) (atN_ok hb.1.1 hb.1.2))
  have x2 := ee_op (T := []) (ee_var (ρ := [.dat (eW v), .dat (eN ns), .own none ((pr.filterMap (lineN ns)).map PyData.int), .dat (.int q.1), .dat (.int q.2)]) (i := 1) rfl) (ee_var (i := 4) rfl) (re_ixT (K := K) (atN_ok hb.2.1 hb.2.2))
  refine ⟨[.dat (eW v), .dat (eN ns), .own none ((pr.filterMap (lineN ns)).map PyData.int), .dat (.int q.1), .dat (.int q.2)], eg_tup2, ?_⟩
  have tt := et_and (et_test (ee_op x1 ee_non re_notN)) (fun _ => et_test (ee_op x2 ee_non re_notN))
  rw [isNone_eO, isNone_eO] at tt
  rw [List.filterMap_append, List.map_append]
  cases ha : atN ns q.1 with
  | none =>
    have hn : lineN ns q = none := by unfold lineN; rw [ha]
    rw [ha] at tt
    refine ss_forget (ss_if (tt.is (b := _) (c := false) rfl) (fun h => by cases h) (fun _ => ss_next)) ?_
    simp only [List.filterMap_cons, hn, List.filterMap_nil, List.map_nil, List.append_nil]
    exact .same (.same (.same (.no (.no .nil))))
  | some a =>
    cases hb' : atN ns q.2 with
    | none =>
      have hn : lineN ns q = none := by unfold lineN; rw [ha, hb']
      rw [ha, hb'] at tt
      refine ss_forget (ss_if (tt.is (b := _) (c := false) rfl) (fun h => by cases h) (fun _ => ss_next)) ?_
      simp only [List.filterMap_cons, hn, List.filterMap_nil, List.map_nil, List.append_nil]
      exact .same (.same (.same (.no (.no .nil))))
    | some b =>
      have hn : lineN ns q = some (iabs (a - b)) := by unfold lineN; rw [ha, hb']
      rw [ha, hb'] at tt
      rw [ha] at x1
      rw [hb'] at x2
      refine ss_forget (ss_if (tt.is (b := _) (c := true) rfl) (fun _ => ss_app (i := 2) rfl (ee_cb (ea_1 (ee_op x1 x2 re_sub)) rb_abs) rfl (by rw [List.length_map]; omega)) (fun h => by cases h)) ?_
      simp only [List.filterMap_cons, hn, List.filterMap_nil, List.map_cons, List.map_nil]
      exact .same (.same (.same (.no (.no .nil))))

end
end U
namespace U
open PySem L2 PyProof.Rows DL
open Evl (Ex)
open LamX (lamS_by)
section
variable {P : Program} {w : World} {K : PySem.W.Frag} {mg : Str → Option Value} {base : Heap} {xa : Str → Addr} {Cd cd Pd Pt : Addr}
abbrev s_with_number : Stmt := topS 38
theorem sc_with_number : FnScope ["numbers", "place", "number"] ["numbers", "place", "number"] (defScope s_with_number) := ⟨rfl, rfl, rfl, by decide +kernel, rfl, by decide +kernel, by decide +kernel⟩
theorem bd_with_number : BindsAs "with_number" s_with_number ["numbers", "place", "number"] := fun _ _ _ _ _ _ us hl => match us, hl with | [_, _, _], _ => rfl

def R_with_number : List PyData → Res → Prop := fun ds r => ∃ (ns : Nm) (i : Int) (x : Option Int), ds = [eN ns, .int i, eO x] ∧ 0 ≤ i ∧ i < ns.length ∧ ns.length ≤ 1000 ∧ r = .ok (eN (withN ns i x))
theorem ok_with_number (F : Fn K mg "with_number" s_with_number) (B : Bt mg) : Cal P w K mg base 1 "with_number" ["numbers", "place", "number"] (spP R_with_number) :=
  calQ F sc_with_number bd_with_number (fun ds r ⟨_, _, _, e, _⟩ => by rw [e]; rfl) fun f cdv A outer s H E hr => by
  refine ⟨_, (pss_one (ps_ret (pe_op (catAK (K := K) rfl) (pe_op (catAK (K := K) rfl) (pe_slice (slTK (K := K) rfl) (pv 0) po_none (po_some (pv 1))) (pe_tup (pa_cons (pv 2) pa_nil))) (pe_slice (slTK (K := K) rfl) (pv 0) (po_some (pe_op op_add (pv 1) pe_int)) po_none)))), fun ds r ⟨ns, i, x, e1, h0, h1, hl, e2⟩ => ?_⟩
  subst e1 e2
  exact ⟨_, ss_ret (ee_with (ee_var rfl) (ee_var rfl) (ee_var rfl) h0 h1 hl), rfl⟩

end
end U
namespace U
open PySem L2 PyProof.Rows DL
open Evl (Ex)
open LamX (lamS_by)
section
variable {P : Program} {w : World} {K : PySem.W.Frag} {mg : Str → Option Value} {base : Heap} {xa : Str → Addr} {Cd cd Pd Pt : Addr}
abbrev s_is_fitting : Stmt := topS 39
theorem sc_is_fitting : FnScope ["web", "numbers", "place", "number", "some"] ["web", "numbers", "place", "number"] (defScope s_is_fitting) := ⟨rfl, rfl, rfl, by decide +kernel, rfl, by decide +kernel, by decide +kernel⟩
theorem bd_is_fitting : BindsAs "is_fitting" s_is_fitting ["web", "numbers", "place", "number"] := fun _ _ _ _ _ _ us hl => match us, hl with | [_, _, _, _], _ => rfl

def R_is_fitting : List PyData → Res → Prop := fun ds r => ∃ (v : Wb) (ns : Nm) (i x : Int), ds = [eW v, eN ns, .int i, .int x] ∧ EndsW v ns.length ∧ v.2.length ≤ 1000 ∧ 0 ≤ i ∧ i < ns.length ∧ ns.length ≤ 1000 ∧ r = .ok (.bool (fitD v ns i x))
theorem ok_is_fitting (F : Fn K mg "is_fitting" s_is_fitting) (B : Bt mg) (c_known_lines : Cal P w K mg base 1 "known_lines" ["web", "numbers"] (spP R_known_lines)) (c_with_number : Cal P w K mg base 1 "with_number" ["numbers", "place", "number"] (spP R_with_number)) : Cal P w K mg base 2 "is_fitting" ["web", "numbers", "place", "number"] (spP R_is_fitting) :=
  calQ F sc_is_fitting bd_is_fitting (fun ds r ⟨_, _, _, _, e, _⟩ => by rw [e]; rfl) fun f cdv A outer s H E hr => by
  refine ⟨_, (pss_cons (ps_if (pt_cmpR (inK (K := K) rfl) (pv 3) (pv 1) (by rfl)) (pss_one (ps_ret pe_bl)) pss_nil)
      (pss_cons (ps_set (i := 4) sc_is_fitting.nd rfl (Or.inl rfl) (pe_cal c_known_lines (hr.mono (by decide)) (by rfl) (pa_cons (pv 0) (pa_cons (pe_cal c_with_number (hr.mono (by decide)) (by rfl) (pa_cons (pv 1) (pa_cons (pv 2) (pa_cons (pv 3) pa_nil)))) pa_nil))))
      (pss_one (ps_ret (pe_cmpR op_eq (pe_callB cr_lenS (by rfl) B.len bb_len (pa_cons (pe_callTy (setK (K := K) rfl rfl) (by rfl) B.set bb_set (pa_cons (pv 4) pa_nil)) pa_nil)) (pe_callB (lenK (K := K) rfl) (by rfl) B.len bb_len (pa_cons (pv 4) pa_nil)) (nomark _)))))), fun ds r ⟨v, ns, i, x, e1, he, hv, h0, h1, hl, e2⟩ => ?_⟩
  subst e1 e2
  have tt := et_test (T := []) (ee_op (ee_var (ρ := slots 5 [eW v, eN ns, .int i, .int x]) (i := 3) rfl) (ee_var (i := 1) rfl) (re_inO (K := K)))
  cases hc : ns.contains (some x) with
  | true =>
    rw [hc] at tt
    have e : fitD v ns i x = false := by unfold fitD; rw [hc]; rfl
    rw [e]
    exact ⟨_, ss_seqR (ss_if tt (fun _ => ss_ret ee_bl) (fun h => by cases h)), rfl⟩
  | false =>
    rw [hc] at tt
    have hkl := knownN_len v (withN ns i (some x))
    refine ⟨_, ss_seq (ss_if tt (fun h => by cases h) (fun _ => ss_next)) (ss_seq (ss_set (ee_call (R := R_known_lines) (ea_2 (ee_var rfl) (ee_call (R := R_with_number) (ea_3 (ee_var (i := 1) rfl) (ee_var (i := 2) rfl) (ee_var (d := eO (some x)) rfl)) ⟨ns, i, some x, rfl, h0, h1, hl, rfl⟩)) ⟨v, withN ns i (some x), rfl, by rw [withN_len h0 h1]; exact he, hv, rfl⟩)) (ss_ret (EE.is (y := .bool (fitD v ns i x)) (ee_op (ee_lenSetL (K := K) (ee_var (i := 4) rfl) (by omega)) (ee_cb (r := rLenQ K) (ea_1 (ee_var (i := 4) rfl)) rb_lenL) re_eqI) ?_))), rfl⟩
    unfold fitD unlikeK
    rw [List.length_map, hc]
    show PyData.bool _ = PyData.bool _
    congr 1
    rw [Bool.not_false, Bool.true_and, Bool.eq_iff_iff, decide_eq_true_eq, decide_eq_true_eq]
    omega

end
end U
namespace U
open PySem L2 PyProof.Rows DL
open Evl (Ex)
open LamX (lamS_by)
section
variable {P : Program} {w : World} {K : PySem.W.Frag} {mg : Str → Option Value} {base : Heap} {xa : Str → Addr} {Cd cd Pd Pt : Addr}
abbrev s_Desk_change : Stmt := methS (topS 40) 1
theorem sc_Desk_change : FnScope ["self", "numbers"] ["self", "numbers"] (defScope s_Desk_change) := ⟨rfl, rfl, rfl, by decide +kernel, rfl, by decide +kernel, by decide +kernel⟩
theorem bd_Desk_change : BindsM "change" "Desk.change" s_Desk_change ["self", "numbers"] := fun _ _ _ _ _ _ us hl => match us, hl with | [_, _], _ => rfl

def R_Desk_change : Fs → List PyData → Res → Fs → Prop := fun st ds r st' => ∃ (s : Dk) (ns : Nm), st = eDk s ∧ ds = [eN ns] ∧ DkOk s 1000 ∧ r = .ok .none ∧ st' = eDk (chg s ns)
theorem ok_Desk_change (F : MFn K Cd "change" "Desk.change" s_Desk_change) (B : Bt mg) (dk : DeskC K Cd) : CalM P w K mg base 1 Cd "change" ["self", "numbers"] (spM Cd R_Desk_change) :=
  calMm F sc_Desk_change bd_Desk_change (fun cs ds r cs' ⟨_, _, _, e, _⟩ => by rw [e]; rfl) fun f cdv A outer s H E hr => by
  refine ⟨_, (PSs.nox (pss_cons (sfldK (K := K) rfl (pv 0) (pe_op op_cat (fldK (K := K) rfl (pv 0)) (pe_lst (pa_cons (fldK (K := K) rfl (pv 0)) pa_nil))))
      (pss_cons (sfldK (K := K) rfl (pv 0) (pe_lst pa_nil))
      (pss_one (sfldK (K := K) rfl (pv 0) (pv 1)))))), fun p cs ds r cs' ⟨s, ns, e1, e2, ok, e3, e4⟩ => ?_⟩
  subst e1 e2 e3 e4
  have hz := ok.sz
  exact ⟨_, ss_seq (ss_earlier dk (ee_snoc (ee_earlier dk rfl) (ee_now dk rfl) (by omega)) rfl rfl) (ss_seq (ss_undone (l := []) dk (el_lst ea_nil (by decide)).ee rfl rfl) (ss_now dk (ee_var rfl) rfl rfl)), rfl, rfl⟩

end
end U
namespace U
open PySem L2 PyProof.Rows DL
open Evl (Ex)
open LamX (lamS_by)
section
variable {P : Program} {w : World} {K : PySem.W.Frag} {mg : Str → Option Value} {base : Heap} {xa : Str → Addr} {Cd cd Pd Pt : Addr}
abbrev s_Desk_put : Stmt := methS (topS 40) 2
theorem sc_Desk_put : FnScope ["self", "place", "number", "one"] ["self", "place", "number"] (defScope s_Desk_put) := ⟨rfl, rfl, rfl, by decide +kernel, rfl, by decide +kernel, by decide +kernel⟩
theorem bd_Desk_put : BindsM "put" "Desk.put" s_Desk_put ["self", "place", "number"] := fun _ _ _ _ _ _ us hl => match us, hl with | [_, _, _], _ => rfl

def R_Desk_put (xa : XA) : Fs → List PyData → Res → Fs → Prop := fun st ds r st' => ∃ (s : Dk) (d e : PyData), st = eDk s ∧ ds = [d, e] ∧ DkOk s 1000 ∧ says xa s (putO s d e) r st'
theorem ok_Desk_put (F : MFn K Cd "put" "Desk.put" s_Desk_put) (B : Bt mg) (x_InvalidNumber : Xc K mg "InvalidNumber" (xa "InvalidNumber")) (x_AlreadyThere : Xc K mg "AlreadyThere" (xa "AlreadyThere")) (x_Taken : Xc K mg "Taken" (xa "Taken")) (x_Equal : Xc K mg "Equal" (xa "Equal")) (dk : DeskC K Cd) (c_need_place : Cal P w K mg base 2 "need_place" ["web", "place"] (spP (R_need_place xa))) (c_is_whole : Cal P w K mg base 1 "is_whole" ["value", "low", "high"] (spP R_is_whole)) (c_top_of : Cal P w K mg base 1 "top_of" ["web"] (spP R_top_of)) (c_is_fitting : Cal P w K mg base 2 "is_fitting" ["web", "numbers", "place", "number"] (spP R_is_fitting)) (c_Desk_change : CalM P w K mg base 1 Cd "change" ["self", "numbers"] (spM Cd R_Desk_change)) (c_with_number : Cal P w K mg base 1 "with_number" ["numbers", "place", "number"] (spP R_with_number)) : CalM P w K mg base 3 Cd "put" ["self", "place", "number"] (spM Cd (R_Desk_put xa)) :=
  calMm F sc_Desk_put bd_Desk_put (fun cs ds r cs' ⟨_, _, _, _, e, _⟩ => by rw [e]; rfl) fun f cdv A outer s H E hr => by
  refine ⟨_, (pss_cons (ps_expr (pe_calX (E := E) c_need_place (hr.mono (by decide)) (by rfl) (takesN rfl rfl rfl rfl) (pa_cons (fldK (K := K) rfl (pv 0)) (pa_cons (pv 1) pa_nil))))
      (pss_cons (ps_if (pt_not (pt_val (pe_cal c_is_whole (hr.mono (by decide)) (by rfl) (pa_cons (pv 2) (pa_cons pe_int (pa_cons (pe_cal c_top_of (hr.mono (by decide)) (by rfl) (pa_cons (fldK (K := K) rfl (pv 0)) pa_nil)) pa_nil)))))) (pss_one (ps_raiseC (E := E) x_InvalidNumber rfl (by rfl) (takesN rfl rfl rfl rfl))) pss_nil)
      (pss_cons (ps_if (pt_cmpR op_notN (pe_ix (ixT (K := K) rfl) (fldK (K := K) rfl (pv 0)) (pv 1) (fun _ _ => rfl)) pe_non (nomark _)) (pss_one (ps_raiseC (E := E) x_AlreadyThere rfl (by rfl) (takesN rfl rfl rfl rfl))) pss_nil)
      (pss_cons (ps_if (pt_cmpR (inK (K := K) rfl) (pv 2) (fldK (K := K) rfl (pv 0)) (by rfl)) (pss_one (ps_raiseC (E := E) x_Taken rfl (by rfl) (takesN rfl rfl rfl rfl))) pss_nil)
      (pss_cons (ps_if (pt_not (pt_val (pe_cal c_is_fitting (hr.mono (by decide)) (by rfl) (pa_cons (fldK (K := K) rfl (pv 0)) (pa_cons (fldK (K := K) rfl (pv 0)) (pa_cons (pv 1) (pa_cons (pv 2) pa_nil))))))) (pss_one (ps_raiseC (E := E) x_Equal rfl (by rfl) (takesN rfl rfl rfl rfl))) pss_nil)
      (PSs.nox (pss_cons (ps_expr (calMK (K := K) rfl c_Desk_change dk.cls (hr.mono (by decide)) (pv 0) (pa_cons (pe_cal c_with_number (hr.mono (by decide)) (by rfl) (pa_cons (fldK (K := K) rfl (pv 0)) (pa_cons (pv 1) (pa_cons (pv 2) pa_nil)))) pa_nil)))
      (pss_one (ps_ret (pe_callB (lenK (K := K) rfl) (by rfl) B.len bb_len (pa_cons (pe_lc (own := [("one", 3)]) (g := (gName 3)) rfl sc_Desk_put.nd (piT (K := K) rfl (fldK (K := K) rfl (pv 0))) (blkOk_by (own := [("one", 3)]) (N := ["self", "place", "number", "one"]) (sc := defScope s_Desk_put) (by decide +kernel)) (fun _ _ _ _ _ => (pg_name (i := 3) sc_Desk_put.nd rfl (Or.inl rfl))) (fun _ _ _ _ _ => (pts_one (pt_cmpR op_notN (pv 3) pe_non (nomark _)))) (fun _ _ _ _ _ => (pv 3))) pa_nil))))))))))), fun p cs ds r cs' ⟨s, d, y, e1, e2, ok, e3⟩ => ?_⟩
  subst e1 e2
  have g := good_of ok.ok
  have hi := g.hi
  have h15 := lines15 g
  have hlen := ok.len
  cases hw : wholeB d 0 (s.web.1 - 1) with
  | false =>
    have ho : putO s d y = .inl "InvalidPlace" := by
      unfold putO
      split
      · rw [if_neg (by rw [hw]; decide)]
      · rfl
    rw [ho] at e3
    obtain ⟨e3, e4⟩ := e3
    subst e3 e4
    exact ⟨_, ss_seqX (ss_callX (R := R_need_place xa) (ea_2 (ee_web dk rfl) (ee_var rfl)) ⟨s.web, d, rfl, by rw [hw]; rfl⟩), rfl, rfl⟩
  | true =>
    obtain ⟨i, rfl, h0, h1⟩ := wholeB_int hw
    have st1 := ss_drop (X := E) (ee_call (E := E) (T := []) (R := R_need_place xa) (ea_2 (ee_web (ρ := slotsM p Cd 4 (eDk s) [.int i, y]) (i := 0) dk rfl) (ee_var (i := 1) rfl)) ⟨s.web, .int i, rfl, by rw [hw, if_pos rfl]⟩)
    have t2 := et_not (et_B (ee_call (E := E0) (T := []) (R := R_is_whole) (ea_3 (ee_var (ρ := slotsM p Cd 4 (eDk s) [.int i, y]) (i := 2) rfl) (ee_int (i := 0)) (ee_call (E := E0) (R := R_top_of) (ea_1 (ee_web (i := 0) dk rfl)) ⟨s.web, rfl, rfl⟩)) ⟨y, 0, topW s.web, rfl, rfl⟩))
    cases hy : wholeB y 0 (topW s.web) with
    | false =>
      have ho : putO s (.int i) y = .inl "InvalidNumber" := by
        show (if _ then _ else _) = _
        rw [if_pos hw]
        split
        · rw [if_neg (by rw [hy]; decide)]
        · rfl
      rw [ho] at e3
      obtain ⟨e3, e4⟩ := e3
      subst e3 e4
      rw [hy] at t2
      exact ⟨_, ss_seq st1 (ss_seqX (ss_if t2 (fun _ => ss_raiseC) (fun h => by cases h))), rfl, rfl⟩
    | true =>
      obtain ⟨x, rfl, k0, k1⟩ := wholeB_int hy
      have ho : putO s (.int i) (.int x) = putI s i x := by
        show (if _ then _ else _) = _
        rw [if_pos hw]
        show (if _ then _ else _) = _
        rw [if_pos hy]
      rw [ho] at e3
      rw [hy] at t2
      have st2 := ss_if (X := E) (t := fun _ _ H => E (.ref (xa "InvalidNumber")) none H) (u := tNext) (o := .nx (slotsM p Cd 4 (eDk s) [.int i, .int x])) t2 (fun h => by cases h) (fun _ => ss_next)
      have t3 := et_test (T := []) (ee_op (ee_op (ee_now (ρ := slotsM p Cd 4 (eDk s) [.int i, .int x]) (i := 0) dk rfl) (ee_var (i := 1) rfl) (re_ixT (K := K) (atN_ok h0 (by omega)))) ee_non re_notN)
      rw [isNone_eO] at t3
      unfold putI at e3
      cases ha : atN s.now i with
      | some a =>
        rw [ha] at e3 t3
        obtain ⟨e3, e4⟩ := e3
        subst e3 e4
        exact ⟨_, ss_seq st1 (ss_seq st2 (ss_seqX (ss_if t3 (fun _ => ss_raiseC) (fun h => by cases h)))), rfl, rfl⟩
      | none =>
        rw [ha] at e3 t3
        have st3 := ss_if (X := E) (t := fun _ _ H => E (.ref (xa "AlreadyThere")) none H) (u := tNext) (o := .nx (slotsM p Cd 4 (eDk s) [.int i, .int x])) t3 (fun h => by cases h) (fun _ => ss_next)
        have t4 := et_test (T := []) (ee_op (ee_var (ρ := slotsM p Cd 4 (eDk s) [.int i, .int x]) (i := 2) rfl) (ee_now (i := 0) dk rfl) (re_inO (K := K)))
        rw [if_neg (by decide)] at e3
        cases hc : s.now.contains (some x) with
        | true =>
          rw [hc, if_pos rfl] at e3
          rw [hc] at t4
          obtain ⟨e3, e4⟩ := e3
          subst e3 e4
          exact ⟨_, ss_seq st1 (ss_seq st2 (ss_seq st3 (ss_seqX (ss_if t4 (fun _ => ss_raiseC) (fun h => by cases h))))), rfl, rfl⟩
        | false =>
          rw [hc, if_neg (by decide)] at e3
          rw [hc] at t4
          have st4 := ss_if (X := E) (t := fun _ _ H => E (.ref (xa "Taken")) none H) (u := tNext) (o := .nx (slotsM p Cd 4 (eDk s) [.int i, .int x])) t4 (fun h => by cases h) (fun _ => ss_next)
          have t5 := et_not (et_B (ee_call (E := E0) (T := []) (R := R_is_fitting) (ea_4 (ee_web (ρ := slotsM p Cd 4 (eDk s) [.int i, .int x]) (i := 0) dk rfl) (ee_now (i := 0) dk rfl) (ee_var (i := 1) rfl) (ee_var (i := 2) rfl)) ⟨s.web, s.now, i, x, rfl, ends_ok g hlen, by omega, h0, by omega, by omega, rfl⟩))
          have hfe : fitD s.web s.now i x = unlikeK s.web (withN s.now i (some x)) := by unfold fitD; rw [hc]; rfl
          rw [hfe] at t5
          cases hu : unlikeK s.web (withN s.now i (some x)) with
          | false =>
            rw [hu] at e3 t5
            obtain ⟨e3, e4⟩ := e3
            subst e3 e4
            exact ⟨_, ss_seq st1 (ss_seq st2 (ss_seq st3 (ss_seq st4 (ss_seqX (ss_if t5 (fun _ => ss_raiseC) (fun h => by cases h)))))), rfl, rfl⟩
          | true =>
            rw [hu] at e3 t5
            obtain ⟨e3, e4⟩ := e3
            subst e3 e4
            have hwl := withN_len (x := some x) h0 (show i < s.now.length by omega)
            exact ⟨_, ss_seq st1 (ss_seq st2 (ss_seq st3 (ss_seq st4 (ss_seq (ss_if t5 (fun h => by cases h) (fun _ => ss_next)) (ss_seq (ss_drop (ee_meth (i := 0) (R := R_Desk_change) rfl rfl (ea_1 (ee_call (R := R_with_number) (ea_3 (ee_now dk rfl) (ee_var rfl) (ee_var (d := eO (some x)) rfl)) ⟨s.now, i, some x, rfl, h0, by omega, by omega, rfl⟩)) rfl rfl ⟨s, withN s.now i (some x), rfl, rfl, ok, rfl, rfl⟩)) (ss_ret (ee_fill (j := 3) (ee_now (s := chg s (withN s.now i (some x))) dk rfl) (by show (withN s.now i (some x)).length ≤ 1000; omega) (by intro _ _ h; cases h) (by show 3 < 4; decide)))))))), rfl, rfl⟩

end
end U
namespace U
open PySem L2 PyProof.Rows DL
open Evl (Ex)
open LamX (lamS_by)
section
variable {P : Program} {w : World} {K : PySem.W.Frag} {mg : Str → Option Value} {base : Heap} {xa : Str → Addr} {Cd cd Pd Pt : Addr}
abbrev s_first_good : Stmt := topS 50
theorem sc_first_good : FnScope ["web"] ["web"] (defScope s_first_good) := ⟨rfl, rfl, rfl, by decide +kernel, rfl, by decide +kernel, by decide +kernel⟩
theorem bd_first_good : BindsAs "first_good" s_first_good ["web"] := fun _ _ _ _ _ _ us hl => match us, hl with | [_], _ => rfl

def R_first_good (xa : XA) : List PyData → Res → Prop := fun ds r => ∃ d, ds = [d] ∧ smallW d ∧ webB d = false ∧ r = .ex (xa "InvalidWeb")
theorem ok_first_good (F : Fn K mg "first_good" s_first_good) (B : Bt mg) (c_need_web : Cal P w K mg base 4 "need_web" ["web"] (spP (R_need_web xa))) : Cal P w K mg base 5 "first_good" ["web"] (spP (R_first_good xa)) :=
  calP F sc_first_good bd_first_good (fun ds r ⟨_, e, _⟩ => by rw [e]; rfl) fun f cdv A outer s H E hr => by
  refine ⟨_, (pss_cons (ps_expr (pe_calX (E := E) c_need_web (hr.mono (by decide)) (by rfl) (takesN rfl rfl rfl rfl) (pa_cons (pv 0) pa_nil)))
      pss_void), fun ds r ⟨d, e1, hsm, hw, e2⟩ => ?_⟩
  subst e1 e2
  exact ⟨_, ss_seqX (ss_callX (ea_1 (ee_var rfl)) ⟨d, rfl, hsm, by unfold needWeb; rw [if_neg (by rw [hw]; decide)]⟩), rfl⟩

end
end U
namespace U
open PySem L2 PyProof.Rows DL
open Evl (Ex)
open LamX (lamS_by)
section
variable {P : Program} {w : World} {K : PySem.W.Frag} {mg : Str → Option Value} {base : Heap} {xa : Str → Addr} {Cd cd Pd Pt : Addr}
abbrev s_are_unlike : Stmt := topS 23
theorem sc_are_unlike : FnScope ["value", "most", "top", "one"] ["value", "most", "top"] (defScope s_are_unlike) := ⟨rfl, rfl, rfl, by decide +kernel, rfl, by decide +kernel, by decide +kernel⟩
theorem bd_are_unlike : BindsAs "are_unlike" s_are_unlike ["value", "most", "top"] := fun _ _ _ _ _ _ us hl => match us, hl with | [_, _, _], _ => rfl

def R_are_unlike : List PyData → Res → Prop := fun ds r => ∃ d m t, ds = [d, .int m, .int t] ∧ m ≤ 1000 ∧ r = .ok (.bool (unlikeB d m t))
theorem wholes_ints : ∀ {xs : List PyData} {t : Int}, (xs.map fun d => wholeB d 0 t).all id = true → ∃ ns : List Int, xs = ns.map PyData.int ∧ ns.all (rangeB t) = true
  | [], _, _ => ⟨[], rfl, rfl⟩
  | d :: xs, t, h => by
    rw [List.map_cons, List.all_cons, Bool.and_eq_true] at h
    obtain ⟨ns, rfl, h2⟩ := wholes_ints h.2
    have h1 : wholeB d 0 t = true := h.1
    obtain ⟨i, rfl⟩ : ∃ i, d = .int i := by cases d <;> first | exact ⟨_, rfl⟩ | exact absurd h1 (by simp [wholeB])
    exact ⟨i :: ns, rfl, by rw [List.all_cons, h2, Bool.and_true]; exact h1⟩
theorem unlike_no {xs : List PyData} {m t : Int} (h : (xs.map fun d => wholeB d 0 t).all id = false) : unlikeB (.tuple xs) m t = false := by
  cases q : unlikeB (.tuple xs) m t with
  | false => rfl
  | true =>
    cases e : asIs xs with
    | none => rw [unlikeB_none e] at q; cases q
    | some ns =>
      rw [unlikeB_some e] at q
      unfold unlikeN at q
      simp only [Bool.and_eq_true, List.all_eq_true] at q
      have : (xs.map fun d => wholeB d 0 t).all id = true := by
        rw [asIs_eq e, List.map_map, List.all_map, List.all_eq_true]
        exact fun n hn => q.2.1 n hn
      rw [this] at h
      cases h
theorem ok_are_unlike (F : Fn K mg "are_unlike" s_are_unlike) (B : Bt mg) (c_is_whole : Cal P w K mg base 1 "is_whole" ["value", "low", "high"] (spP R_is_whole)) : Cal P w K mg base 2 "are_unlike" ["value", "most", "top"] (spP R_are_unlike) :=
  calQ F sc_are_unlike bd_are_unlike (fun ds r ⟨_, _, _, e, _⟩ => by rw [e]; rfl) fun f cdv A outer s H E hr => by
  refine ⟨_, (pss_cons (ps_if (PW.pt (pw_or (pt_not (pt_val (pe_callB (isiK (K := K) rfl) (by rfl) B.isinstance bb_isinstance (pa_cons (pv 0) (pa_cons (pe_bltn (v := .ty "tuple") (by rfl) B.tuple bb_tuple rfl) pa_nil))))) (pw_or (pt_cmpR op_gt (pe_callB (lenK (K := K) rfl) (by rfl) B.len bb_len (pa_cons (pv 0) pa_nil)) (pv 1) (nomark _)) (pw_or1 (pt_not (pt_val (pe_callB (allK (K := K) rfl rfl) (by rfl) B.all bb_all (pa_cons (pe_lc (own := [("one", 3)]) (g := (gName 3)) (tt := tYes) rfl sc_are_unlike.nd (piT (K := K) rfl (pv 0)) (blkOk_by (own := [("one", 3)]) (N := ["value", "most", "top", "one"]) (sc := defScope s_are_unlike) (by decide +kernel)) (fun _ _ _ _ _ => (pg_name (i := 3) sc_are_unlike.nd rfl (Or.inl rfl))) (fun _ _ _ _ _ => pts_nil) (fun _ _ _ _ _ => (pe_cal c_is_whole (hr.mono (by decide)) (by rfl) (pa_cons (pv 3) (pa_cons pe_int (pa_cons (pv 2) pa_nil)))))) pa_nil)))))))) (pss_one (ps_ret pe_bl)) pss_nil)
      (pss_one (ps_ret (pe_cmpR op_eq (pe_callB cr_lenS (by rfl) B.len bb_len (pa_cons (pe_callTy (setK (K := K) rfl rfl) (by rfl) B.set bb_set (pa_cons (pv 0) pa_nil)) pa_nil)) (pe_callB (lenK (K := K) rfl) (by rfl) B.len bb_len (pa_cons (pv 0) pa_nil)) (nomark _))))), fun ds r ⟨d, m, t, e1, hm, e2⟩ => ?_⟩
  subst e1 e2
  cases hd : isTup d with
  | false =>
    have : unlikeB d m t = false := by cases d <;> first | rfl | cases hd
    rw [this]
    exact ⟨_, ss_seqR (ss_if (et_orT (et_not (et_B (ee_is_bool (ee_isTup (ee_var rfl)) hd)))) (fun _ => ss_ret ee_bl) (fun h => by cases h)), rfl⟩
  | true =>
    obtain ⟨xs, rfl⟩ : ∃ xs, d = .tuple xs := by cases d <;> first | exact ⟨_, rfl⟩ | cases hd
    by_cases hl : m < (xs.length : Int)
    · have : unlikeB (.tuple xs) m t = false := by
        cases q : unlikeB (.tuple xs) m t with
        | false => rfl
        | true =>
          cases e : asIs xs with
          | none => rw [unlikeB_none e] at q; cases q
          | some ns =>
            rw [unlikeB_some e] at q
            unfold unlikeN at q
            simp only [Bool.and_eq_true, decide_eq_true_eq] at q
            have := congrArg List.length (asIs_eq e)
            rw [List.length_map] at this
            omega
      rw [this]
      exact ⟨_, ss_seqR (ss_if (et_orF (et_not (et_B (ee_isTup (d := .tuple xs) (ee_var rfl)))) (et_orT (ET.is (et_test (ee_op (ee_cb (ea_1 (ee_var rfl)) (rb_lenT (es := xs))) (ee_var rfl) re_gt)) (decide_eq_true hl)))) (fun _ => ss_ret ee_bl) (fun h => by cases h)), rfl⟩
    · have t1 := et_orF (T := []) (et_not (et_B (ee_isTup (K := K) (d := .tuple xs) (ee_var (ρ := slots 4 [.tuple xs, .int m, .int t]) (i := 0) rfl)))) (et_orF (ET.is (et_test (ee_op (ee_cb (ea_1 (ee_var (i := 0) rfl)) (rb_lenT (K := K) (es := xs))) (ee_var (i := 1) rfl) re_gt)) (decide_eq_false hl))
        (et_not (et_B (ee_cb (r := rAll K) (ea_1 (el_lcT (K := K) (tl := tVar 0) (g := gName 3) (tt := tYes) (vs := [3]) (ee_var rfl) (lcr_dbools (fun d => wholeB d 0 t) xs fun x _ => lc1m (by intro _ _ h; cases h) (ee_call (R := R_is_whole) (E := E0) (ea_3 (ee_var (i := 3) rfl) (ee_int (i := 0)) (ee_var (i := 2) rfl)) ⟨x, 0, t, rfl, rfl⟩)) (by simp; omega)).ee) rb_all))))
      cases hall : (xs.map fun d => wholeB d 0 t).all id with
      | false =>
        rw [hall] at t1
        rw [unlike_no hall]
        exact ⟨_, ss_seqR (ss_if t1 (fun _ => ss_ret ee_bl) (fun h => by cases h)), rfl⟩
      | true =>
        rw [hall] at t1
        obtain ⟨ns, rfl, hr⟩ := wholes_ints hall
        refine ⟨_, ss_seq (ss_if t1 (fun h => by cases h) (fun _ => ss_next)) (ss_ret (ee_op (ee_lenSetT (ns := ns) (ee_var rfl) (by have : (ns.map PyData.int).length = ns.length := List.length_map _; omega)) (ee_cb (ea_1 (ee_var rfl)) rb_lenT) re_eqI)), ?_⟩
        show PyData.bool _ = PyData.bool _
        rw [show PyData.tuple (ns.map PyData.int) = eT ns from rfl, unlikeB_eT]
        unfold unlikeN
        rw [hr, List.length_map]
        have h2 : (ns.length : Int) ≤ m := by have : (ns.map PyData.int).length = ns.length := List.length_map _; omega
        rw [decide_eq_true h2, Bool.true_and, Bool.true_and]
        congr 1
        simp only [decide_eq_decide]
        omega

end
end U
namespace U
open PySem L2 PyProof.Rows DL
open Evl (Ex)
open LamX (lamS_by)
section
variable {P : Program} {w : World} {K : PySem.W.Frag} {mg : Str → Option Value} {base : Heap} {xa : Str → Addr} {Cd cd Pd Pt : Addr}
abbrev s_fits_top : Stmt := topS 24
theorem sc_fits_top : FnScope ["web", "top", "value"] ["web", "top", "value"] (defScope s_fits_top) := ⟨rfl, rfl, rfl, by decide +kernel, rfl, by decide +kernel, by decide +kernel⟩
theorem bd_fits_top : BindsAs "fits_top" s_fits_top ["web", "top", "value"] := fun _ _ _ _ _ _ us hl => match us, hl with | [_, _, _], _ => rfl

def R_fits_top : List PyData → Res → Prop := fun ds r => ∃ (v : Wb) (t : Int) (d : PyData), ds = [eW v, .int t, d] ∧ v.1 ≤ 1000 ∧ r = .ok (.bool (fitsB v t d))
theorem fitsB_and (v : Wb) (t : Int) (d : PyData) (h : unlikeB d v.1 t = true) : ∃ ns, d = eT ns ∧ fitsB v t d = decide ((ns.length : Int) = v.1) := by
  cases d with
  | tuple ds =>
    cases e : asIs ds with
    | none => rw [unlikeB_none e] at h; cases h
    | some ns =>
      rw [unlikeB_some e] at h
      refine ⟨ns, by rw [asIs_eq e], ?_⟩
      rw [asIs_eq e, show PyData.tuple (ns.map PyData.int) = eT ns from rfl, fitsB_eT]
      unfold fitsN
      rw [h, Bool.true_and]
  | _ => cases h
theorem fitsB_no (v : Wb) (t : Int) (d : PyData) (h : unlikeB d v.1 t = false) : fitsB v t d = false := by
  cases q : fitsB v t d with
  | false => rfl
  | true =>
    obtain ⟨ns, rfl, f⟩ := fitsB_iff.mp q
    rw [unlikeB_eT] at h
    unfold fitsN at f
    rw [h] at f
    cases f
theorem ok_fits_top (F : Fn K mg "fits_top" s_fits_top) (B : Bt mg) (c_are_unlike : Cal P w K mg base 2 "are_unlike" ["value", "most", "top"] (spP R_are_unlike)) : Cal P w K mg base 3 "fits_top" ["web", "top", "value"] (spP R_fits_top) :=
  calQ F sc_fits_top bd_fits_top (fun ds r ⟨_, _, _, e, _⟩ => by rw [e]; rfl) fun f cdv A outer s H E hr => by
  refine ⟨_, (pss_one (ps_ret (pe_and (pe_cal c_are_unlike (hr.mono (by decide)) (by rfl) (pa_cons (pv 2) (pa_cons (pe_ix (ixT (K := K) rfl) (pv 0) pe_int (fun _ _ => rfl)) (pa_cons (pv 1) pa_nil)))) (pe_one (pe_cmpR op_eq (pe_callB (lenK (K := K) rfl) (by rfl) B.len bb_len (pa_cons (pv 2) pa_nil)) (pe_ix (ixT (K := K) rfl) (pv 0) pe_int (fun _ _ => rfl)) (nomark _)))))), fun ds r ⟨v, t, d, e1, hm, e2⟩ => ?_⟩
  subst e1 e2
  have c := ee_call (T := []) (E := E0) (R := R_are_unlike) (ea_3 (ee_var (ρ := slots 3 [eW v, .int t, d]) (i := 2) rfl) (ee_op (ee_var (i := 0) rfl) (ee_int (i := 0)) (re_ixT (K := K) (d := .int v.1) rfl)) (ee_var (i := 1) rfl)) ⟨d, v.1, t, rfl, hm, rfl⟩
  cases h : unlikeB d v.1 t with
  | false =>
    rw [fitsB_no v t d h]
    exact ⟨_, ss_ret (ee_andF (ee_is_bool c h)), rfl⟩
  | true =>
    obtain ⟨ns, rfl, e⟩ := fitsB_and v t d h
    rw [e]
    refine ⟨_, ss_ret (ee_andT (ee_is_bool c h) (ee_op (ee_cb (ea_1 (ee_var rfl)) rb_lenT) (ee_op (ee_var rfl) ee_int (re_ixT (d := .int v.1) rfl)) re_eqI)), ?_⟩
    show PyData.bool _ = PyData.bool _
    rw [List.length_map]

end
end U
namespace U
open PySem L2 PyProof.Rows DL
open Evl (Ex)
open LamX (lamS_by)
section
variable {P : Program} {w : World} {K : PySem.W.Frag} {mg : Str → Option Value} {base : Heap} {xa : Str → Addr} {Cd cd Pd Pt : Addr}
abbrev s_need_numbering : Stmt := topS 26
theorem sc_need_numbering : FnScope ["web", "numbering"] ["web", "numbering"] (defScope s_need_numbering) := ⟨rfl, rfl, rfl, by decide +kernel, rfl, by decide +kernel, by decide +kernel⟩
theorem bd_need_numbering : BindsAs "need_numbering" s_need_numbering ["web", "numbering"] := fun _ _ _ _ _ _ us hl => match us, hl with | [_, _], _ => rfl

def R_need_numbering (xa : XA) : List PyData → Res → Prop := fun ds r => ∃ d e, ds = [d, e] ∧ smallW d ∧ r = needNum xa d e
theorem ok_need_numbering (F : Fn K mg "need_numbering" s_need_numbering) (B : Bt mg) (x_InvalidNumbering : Xc K mg "InvalidNumbering" (xa "InvalidNumbering")) (c_need_web : Cal P w K mg base 4 "need_web" ["web"] (spP (R_need_web xa))) (c_fits_top : Cal P w K mg base 3 "fits_top" ["web", "top", "value"] (spP R_fits_top)) (c_top_of : Cal P w K mg base 1 "top_of" ["web"] (spP R_top_of)) : Cal P w K mg base 5 "need_numbering" ["web", "numbering"] (spP (R_need_numbering xa)) :=
  calP F sc_need_numbering bd_need_numbering (fun ds r ⟨_, _, e, _⟩ => by rw [e]; rfl) fun f cdv A outer s H E hr => by
  refine ⟨_, (pss_cons (ps_expr (pe_calX (E := E) c_need_web (hr.mono (by decide)) (by rfl) (takesN rfl rfl rfl rfl) (pa_cons (pv 0) pa_nil)))
      (pss_one (ps_if (pt_not (pt_val (pe_cal c_fits_top (hr.mono (by decide)) (by rfl) (pa_cons (pv 0) (pa_cons (pe_cal c_top_of (hr.mono (by decide)) (by rfl) (pa_cons (pv 0) pa_nil)) (pa_cons (pv 1) pa_nil)))))) (pss_one (ps_raiseC (E := E) x_InvalidNumbering rfl (by rfl) (takesN rfl rfl rfl rfl))) pss_nil))), fun ds r ⟨d, e, e1, hsm, e2⟩ => ?_⟩
  subst e1 e2
  unfold needNum
  by_cases h : webB d = true
  · rw [if_pos h]
    obtain ⟨v, rfl, ok⟩ := webB_iff.mp h
    have g := good_of ok
    rw [toW_eW]
    have first := ss_drop (X := E) (ee_call (T := []) (E := E) (R := R_need_web xa) (ea_1 (ee_var (ρ := slots 2 [eW v, e]) (i := 0) rfl)) ⟨eW v, rfl, hsm, by unfold needWeb; rw [if_pos h]⟩)
    have t := et_not (et_B (ee_call (T := []) (E := E0) (R := R_fits_top) (ea_3 (ee_var (ρ := slots 2 [eW v, e]) (i := 0) rfl) (ee_call (E := E0) (R := R_top_of) (ea_1 (ee_var (i := 0) rfl)) ⟨v, rfl, rfl⟩) (ee_var (i := 1) rfl)) ⟨v, topW v, e, rfl, by have := g.hi; omega, rfl⟩))
    cases hf : fitsB v (topW v) e with
    | true =>
      rw [hf] at t
      exact ⟨_, ss_seq first (ss_if t (fun h => by cases h) (fun _ => ss_next)), rfl⟩
    | false =>
      rw [hf] at t
      exact ⟨_, ss_seq first (ss_if t (fun _ => ss_raiseC) (fun h => by cases h)), rfl⟩
  · rw [if_neg h]
    exact ⟨_, ss_seqX (ss_callX (ea_1 (ee_var rfl)) ⟨d, rfl, hsm, by unfold needWeb; rw [if_neg h]⟩), rfl⟩

end
end U
namespace U
open PySem L2 PyProof.Rows DL
open Evl (Ex)
open LamX (lamS_by)
section
variable {P : Program} {w : World} {K : PySem.W.Frag} {mg : Str → Option Value} {base : Heap} {xa : Str → Addr} {Cd cd Pd Pt : Addr}
abbrev s_line_numbers : Stmt := topS 28
theorem sc_line_numbers : FnScope ["web", "numbering"] ["web", "numbering"] (defScope s_line_numbers) := ⟨rfl, rfl, rfl, by decide +kernel, rfl, by decide +kernel, by decide +kernel⟩
theorem bd_line_numbers : BindsAs "line_numbers" s_line_numbers ["web", "numbering"] := fun _ _ _ _ _ _ us hl => match us, hl with | [_, _], _ => rfl

def R_line_numbers (xa : XA) : List PyData → Res → Prop := fun ds r => ∃ d e C, ds = [d, e] ∧ smallW d ∧ needNum xa d e = .ex C ∧ r = .ex C
theorem ok_line_numbers (F : Fn K mg "line_numbers" s_line_numbers) (B : Bt mg) (c_need_numbering : Cal P w K mg base 5 "need_numbering" ["web", "numbering"] (spP (R_need_numbering xa))) : Cal P w K mg base 6 "line_numbers" ["web", "numbering"] (spP (R_line_numbers xa)) :=
  calP F sc_line_numbers bd_line_numbers (fun ds r ⟨_, _, _, e, _⟩ => by rw [e]; rfl) fun f cdv A outer s H E hr => by
  refine ⟨_, (pss_cons (ps_expr (pe_calX (E := E) c_need_numbering (hr.mono (by decide)) (by rfl) (takesN rfl rfl rfl rfl) (pa_cons (pv 0) (pa_cons (pv 1) pa_nil))))
      pss_void), fun ds r ⟨d, e, C, e1, hsm, hC, e2⟩ => ?_⟩
  subst e1 e2
  exact ⟨_, ss_seqX (ss_callX (R := R_need_numbering xa) (ea_2 (ee_var rfl) (ee_var rfl)) ⟨d, e, rfl, hsm, hC.symm⟩), rfl⟩

end
end U
namespace U
open PySem L2 PyProof.Rows DL
open Evl (Ex)
open LamX (lamS_by)
section
variable {P : Program} {w : World} {K : PySem.W.Frag} {mg : Str → Option Value} {base : Heap} {xa : Str → Addr} {Cd cd Pd Pt : Addr}
abbrev s_possible_numbers : Stmt := topS 55
theorem sc_possible_numbers : FnScope ["web", "place", "twins", "found", "numbering", "one"] ["web", "place"] (defScope s_possible_numbers) := ⟨rfl, rfl, rfl, by decide +kernel, rfl, by decide +kernel, by decide +kernel⟩
theorem bd_possible_numbers : BindsAs "possible_numbers" s_possible_numbers ["web", "place"] := fun _ _ _ _ _ _ us hl => match us, hl with | [_, _], _ => rfl

def R_possible_numbers (xa : XA) : List PyData → Res → Prop := fun ds r => ∃ (v : Wb) (e : PyData), ds = [eW v, e] ∧ smallW (eW v) ∧ webB (eW v) = true ∧ wholeB e 0 (v.1 - 1) = false ∧ r = .ex (xa "InvalidPlace")
theorem ok_possible_numbers (F : Fn K mg "possible_numbers" s_possible_numbers) (B : Bt mg) (c_need_web : Cal P w K mg base 4 "need_web" ["web"] (spP (R_need_web xa))) (c_need_place : Cal P w K mg base 2 "need_place" ["web", "place"] (spP (R_need_place xa))) : Cal P w K mg base 5 "possible_numbers" ["web", "place"] (spP (R_possible_numbers xa)) :=
  calP F sc_possible_numbers bd_possible_numbers (fun ds r ⟨_, _, e, _⟩ => by rw [e]; rfl) fun f cdv A outer s H E hr => by
  refine ⟨_, (pss_cons (ps_expr (pe_calX (E := E) c_need_web (hr.mono (by decide)) (by rfl) (takesN rfl rfl rfl rfl) (pa_cons (pv 0) pa_nil)))
      (pss_cons (ps_expr (pe_calX (E := E) c_need_place (hr.mono (by decide)) (by rfl) (takesN rfl rfl rfl rfl) (pa_cons (pv 0) (pa_cons (pv 1) pa_nil))))
      pss_void)), fun ds r ⟨v, e, e1, hsm, hw, he, e2⟩ => ?_⟩
  subst e1 e2
  exact ⟨_, ss_seq (ss_drop (ee_call (E := E) (R := R_need_web xa) (ea_1 (ee_var rfl)) ⟨eW v, rfl, hsm, by unfold needWeb; rw [if_pos hw]⟩)) (ss_seqX (ss_callX (R := R_need_place xa) (ea_2 (ee_var rfl) (ee_var rfl)) ⟨v, e, rfl, by rw [he]; rfl⟩)), rfl⟩

end
end U
namespace U
open PySem L2 PyProof.Rows DL
open Evl (Ex)
open LamX (lamS_by)
section
variable {P : Program} {w : World} {K : PySem.W.Frag} {mg : Str → Option Value} {base : Heap} {xa : Str → Addr} {Cd cd Pd Pt : Addr}
abbrev s_completed : Stmt := topS 54
theorem sc_completed : FnScope ["web", "begun", "used"] ["web", "begun"] (defScope s_completed) := ⟨rfl, rfl, rfl, by decide +kernel, rfl, by decide +kernel, by decide +kernel⟩
theorem bd_completed : BindsAs "completed" s_completed ["web", "begun"] := fun _ _ _ _ _ _ us hl => match us, hl with | [_, _], _ => rfl

def R_completed (xa : XA) : List PyData → Res → Prop := fun ds r => ∃ (v : Wb) (e : PyData), ds = [eW v, e] ∧ smallW (eW v) ∧ webB (eW v) = true ∧ v.1 ≤ 1000 ∧ unlikeB e v.1 (topW v) = false ∧ r = .ex (xa "InvalidBegun")
theorem ok_completed (F : Fn K mg "completed" s_completed) (B : Bt mg) (x_InvalidBegun : Xc K mg "InvalidBegun" (xa "InvalidBegun")) (c_need_web : Cal P w K mg base 4 "need_web" ["web"] (spP (R_need_web xa))) (c_are_unlike : Cal P w K mg base 2 "are_unlike" ["value", "most", "top"] (spP R_are_unlike)) (c_top_of : Cal P w K mg base 1 "top_of" ["web"] (spP R_top_of)) : Cal P w K mg base 5 "completed" ["web", "begun"] (spP (R_completed xa)) :=
  calP F sc_completed bd_completed (fun ds r ⟨_, _, e, _⟩ => by rw [e]; rfl) fun f cdv A outer s H E hr => by
  refine ⟨_, (pss_cons (ps_expr (pe_calX (E := E) c_need_web (hr.mono (by decide)) (by rfl) (takesN rfl rfl rfl rfl) (pa_cons (pv 0) pa_nil)))
      (pss_cons (ps_if (pt_not (pt_val (pe_cal c_are_unlike (hr.mono (by decide)) (by rfl) (pa_cons (pv 1) (pa_cons (pe_ix (ixT (K := K) rfl) (pv 0) pe_int (fun _ _ => rfl)) (pa_cons (pe_cal c_top_of (hr.mono (by decide)) (by rfl) (pa_cons (pv 0) pa_nil)) pa_nil)))))) (pss_one (ps_raiseC (E := E) x_InvalidBegun rfl (by rfl) (takesN rfl rfl rfl rfl))) pss_nil)
      pss_void)), fun ds r ⟨v, e, e1, hsm, hw, hv, he, e2⟩ => ?_⟩
  subst e1 e2
  exact ⟨_, ss_seq (ss_drop (ee_call (E := E) (R := R_need_web xa) (ea_1 (ee_var rfl)) ⟨eW v, rfl, hsm, by unfold needWeb; rw [if_pos hw]⟩)) (ss_seqX (ss_if (ET.is (et_not (et_B (ee_call (E := E0) (R := R_are_unlike) (ea_3 (ee_var rfl) (ee_w0 rfl) (ee_call (E := E0) (R := R_top_of) (ea_1 (ee_var rfl)) ⟨v, rfl, rfl⟩)) ⟨e, v.1, topW v, rfl, hv, rfl⟩))) (show _ = true by rw [he]; rfl)) (fun _ => ss_raiseC) (fun h => by cases h))), rfl⟩

end
end U
namespace U
open PySem L2 PyProof.Rows DL
open Evl (Ex)
open LamX (lamS_by)
section
variable {P : Program} {w : World} {K : PySem.W.Frag} {mg : Str → Option Value} {base : Heap} {xa : Str → Addr} {Cd cd Pd Pt : Addr}
abbrev s_need_both : Stmt := topS 66
theorem sc_need_both : FnScope ["web", "top"] ["web", "top"] (defScope s_need_both) := ⟨rfl, rfl, rfl, by decide +kernel, rfl, by decide +kernel, by decide +kernel⟩
theorem bd_need_both : BindsAs "need_both" s_need_both ["web", "top"] := fun _ _ _ _ _ _ us hl => match us, hl with | [_, _], _ => rfl

def bothR (xa : XA) (d e : PyData) : Res := if webB d = true then (if wholeB e 0 20 = true then .ok .none else .ex (xa "InvalidNumber")) else .ex (xa "InvalidWeb")
def R_need_both (xa : XA) : List PyData → Res → Prop := fun ds r => ∃ d e, ds = [d, e] ∧ smallW d ∧ r = bothR xa d e
theorem ok_need_both (F : Fn K mg "need_both" s_need_both) (B : Bt mg) (x_InvalidNumber : Xc K mg "InvalidNumber" (xa "InvalidNumber")) (c_need_web : Cal P w K mg base 4 "need_web" ["web"] (spP (R_need_web xa))) (c_is_whole : Cal P w K mg base 1 "is_whole" ["value", "low", "high"] (spP R_is_whole)) : Cal P w K mg base 5 "need_both" ["web", "top"] (spP (R_need_both xa)) :=
  calP F sc_need_both bd_need_both (fun ds r ⟨_, _, e, _⟩ => by rw [e]; rfl) fun f cdv A outer s H E hr => by
  refine ⟨_, (pss_cons (ps_expr (pe_calX (E := E) c_need_web (hr.mono (by decide)) (by rfl) (takesN rfl rfl rfl rfl) (pa_cons (pv 0) pa_nil)))
      (pss_one (ps_if (pt_not (pt_val (pe_cal c_is_whole (hr.mono (by decide)) (by rfl) (pa_cons (pv 1) (pa_cons pe_int (pa_cons pe_int pa_nil)))))) (pss_one (ps_raiseC (E := E) x_InvalidNumber rfl (by rfl) (takesN rfl rfl rfl rfl))) pss_nil))), fun ds r ⟨d, e, e1, hsm, e2⟩ => ?_⟩
  subst e1 e2
  unfold bothR
  by_cases h : webB d = true
  · rw [if_pos h]
    have first := ss_drop (X := E) (ee_call (T := []) (E := E) (R := R_need_web xa) (ea_1 (ee_var (ρ := slots 2 [d, e]) (i := 0) rfl)) ⟨d, rfl, hsm, by unfold needWeb; rw [if_pos h]⟩)
    have t := et_not (et_B (ee_call (T := []) (E := E0) (R := R_is_whole) (ea_3 (ee_var (ρ := slots 2 [d, e]) (i := 1) rfl) (ee_int (i := 0)) (ee_int (i := 20))) ⟨e, 0, 20, rfl, rfl⟩))
    cases hf : wholeB e 0 20 with
    | true =>
      rw [hf] at t
      exact ⟨_, ss_seq first (ss_if t (fun h => by cases h) (fun _ => ss_next)), rfl⟩
    | false =>
      rw [hf] at t
      exact ⟨_, ss_seq first (ss_if t (fun _ => ss_raiseC) (fun h => by cases h)), rfl⟩
  · rw [if_neg h]
    exact ⟨_, ss_seqX (ss_callX (ea_1 (ee_var rfl)) ⟨d, rfl, hsm, by unfold needWeb; rw [if_neg h]⟩), rfl⟩
theorem whole_iff {e : PyData} {lo hi : Int} : wholeB e lo hi = true ↔ ∃ i, e = .int i ∧ lo ≤ i ∧ i ≤ hi := by
  constructor
  · intro h
    unfold wholeB at h
    split at h
    · rw [Bool.and_eq_true, decide_eq_true_eq, decide_eq_true_eq] at h; exact ⟨_, rfl, h.1, h.2⟩
    · cases h
  · rintro ⟨i, rfl, h1, h2⟩
    unfold wholeB
    simp [h1, h2]

end
end U
namespace U
open PySem L2 PyProof.Rows DL
open Evl (Ex)
open LamX (lamS_by)
section
variable {P : Program} {w : World} {K : PySem.W.Frag} {mg : Str → Option Value} {base : Heap} {xa : Str → Addr} {Cd cd Pd Pt : Addr}
abbrev s_first_with_top : Stmt := topS 67
theorem sc_first_with_top : FnScope ["web", "top"] ["web", "top"] (defScope s_first_with_top) := ⟨rfl, rfl, rfl, by decide +kernel, rfl, by decide +kernel, by decide +kernel⟩
theorem bd_first_with_top : BindsAs "first_with_top" s_first_with_top ["web", "top"] := fun _ _ _ _ _ _ us hl => match us, hl with | [_, _], _ => rfl

def R_first_with_top (xa : XA) : List PyData → Res → Prop := fun ds r => ∃ d e C, ds = [d, e] ∧ smallW d ∧ bothR xa d e = .ex C ∧ r = .ex C
theorem ok_first_with_top (F : Fn K mg "first_with_top" s_first_with_top) (B : Bt mg) (c_need_both : Cal P w K mg base 5 "need_both" ["web", "top"] (spP (R_need_both xa))) : Cal P w K mg base 6 "first_with_top" ["web", "top"] (spP (R_first_with_top xa)) :=
  calP F sc_first_with_top bd_first_with_top (fun ds r ⟨_, _, _, e, _⟩ => by rw [e]; rfl) fun f cdv A outer s H E hr => by
  refine ⟨_, (pss_cons (ps_expr (pe_calX (E := E) c_need_both (hr.mono (by decide)) (by rfl) (takesN rfl rfl rfl rfl) (pa_cons (pv 0) (pa_cons (pv 1) pa_nil))))
      pss_void), fun ds r ⟨d, e, C, e1, hsm, hC, e2⟩ => ?_⟩
  subst e1 e2
  exact ⟨_, ss_seqX (ss_callX (R := R_need_both xa) (ea_2 (ee_var rfl) (ee_var rfl)) ⟨d, e, rfl, hsm, hC.symm⟩), rfl⟩

end
end U
namespace U
open PySem L2 PyProof.Rows DL
open Evl (Ex)
open LamX (lamS_by)
section
variable {P : Program} {w : World} {K : PySem.W.Frag} {mg : Str → Option Value} {base : Heap} {xa : Str → Addr} {Cd cd Pd Pt : Addr}
abbrev s_turn_of : Stmt := topS 35
theorem sc_turn_of : FnScope ["web", "numbering", "pair", "turn"] ["web", "numbering", "pair"] (defScope s_turn_of) := ⟨rfl, rfl, rfl, by decide +kernel, rfl, by decide +kernel, by decide +kernel⟩
theorem bd_turn_of : BindsAs "turn_of" s_turn_of ["web", "numbering", "pair"] := fun _ _ _ _ _ _ us hl => match us, hl with | [_, _, _], _ => rfl

def R_turn_of (xa : XA) : List PyData → Res → Prop := fun ds r => ∃ (v : Wb) (e p : PyData), ds = [eW v, e, p] ∧ smallW (eW v) ∧ needNum xa (eW v) e = .ok .none ∧ pairB p (2 * topW v) = false ∧ r = .ex (xa "InvalidPair")
theorem ok_turn_of (F : Fn K mg "turn_of" s_turn_of) (B : Bt mg) (x_InvalidPair : Xc K mg "InvalidPair" (xa "InvalidPair")) (c_need_numbering : Cal P w K mg base 5 "need_numbering" ["web", "numbering"] (spP (R_need_numbering xa))) (c_is_pair : Cal P w K mg base 2 "is_pair" ["value", "high"] (spP R_is_pair)) (c_top_of : Cal P w K mg base 1 "top_of" ["web"] (spP R_top_of)) : Cal P w K mg base 6 "turn_of" ["web", "numbering", "pair"] (spP (R_turn_of xa)) :=
  calP F sc_turn_of bd_turn_of (fun ds r ⟨_, _, _, e, _⟩ => by rw [e]; rfl) fun f cdv A outer s H E hr => by
  refine ⟨_, (pss_cons (ps_expr (pe_calX (E := E) c_need_numbering (hr.mono (by decide)) (by rfl) (takesN rfl rfl rfl rfl) (pa_cons (pv 0) (pa_cons (pv 1) pa_nil))))
      (pss_cons (ps_if (pt_not (pt_val (pe_cal c_is_pair (hr.mono (by decide)) (by rfl) (pa_cons (pv 2) (pa_cons (pe_op op_mul pe_int (pe_cal c_top_of (hr.mono (by decide)) (by rfl) (pa_cons (pv 0) pa_nil))) pa_nil))))) (pss_one (ps_raiseC (E := E) x_InvalidPair rfl (by rfl) (takesN rfl rfl rfl rfl))) pss_nil)
      pss_void)), fun ds r ⟨v, e, p, e1, hsm, hn, hp, e2⟩ => ?_⟩
  subst e1 e2
  exact ⟨_, ss_seq (ss_drop (ee_call (E := E) (R := R_need_numbering xa) (ea_2 (ee_var rfl) (ee_var rfl)) ⟨eW v, e, rfl, hsm, hn.symm⟩)) (ss_seqX (ss_if (ET.is (et_not (et_B (ee_call (E := E0) (R := R_is_pair) (ea_2 (ee_var rfl) (ee_op (ee_int (i := 2)) (ee_call (E := E0) (R := R_top_of) (ea_1 (ee_var rfl)) ⟨v, rfl, rfl⟩) (re_mulL (by decide)))) ⟨p, 2 * topW v, rfl, rfl⟩))) (show _ = true by rw [hp]; rfl)) (fun _ => ss_raiseC) (fun h => by cases h))), rfl⟩

end
end U
/-! LcX: a list comprehension whose element may raise (HandS.Comp's lc_core with the element under a wish; its frame rule follows PyProof.CompFree). -/
namespace DL
open PySem PySem.Spec PyProof.Rows L2
section
variable {M : Model} {A : Around} {E : Value → Shared → Prop} {s : Shared} {env : PySem.Env}
/-- behind the block: an exception goes on from the frame fr -/
def compPostX (M : Model) (A : Around) (E : Value → Shared → Prop) (Q : Value → Shared → Prop) (acc : Value) (C : Addr) (fr : Option Addr) (r : Result) (s' : Shared) : Prop :=
  match r with
  | .ok _ => ∃ m, s'.heap.Ns C m ∧ ∀ h', Heap.SameBut C s'.heap h' → Q acc { s' with heap := h' }
  | .error x => ∃ m, s'.heap.Ns C m ∧ ∀ h', Heap.SameBut C s'.heap h' → ∀ cenv : PySem.Env, cenv.locals = C → cenv.frame = fr → wpAny M A (passOn "comprehension.variables-let-go" x cenv : Sem Value) (fun _ _ => False) E { s' with heap := h' }
theorem comprehension_freeX {e : Expr} {scope : Scope} {pos : Pos} {newAcc first : Sem Value} {g : Comprehension} {gs : List Comprehension} {cl : List (Str × Addr)}
    {Q : Value → Shared → Prop}
    (hcl : clausesOf e = g :: gs) (hs : ∀ x, foldedSetIterable g.iter env x = pure x) (hclos : closureFor scope env = pure cl)
    (hkind : scope.kind = .function) (hnames : ∀ x ∈ scope.names, x.2 = .local → scope.names.lookup x.1 = some .local)
    (h : wpAny M A first (fun x s₁ => wpAny M A (pyIter x) (fun it s₂ => wpAny M A newAcc (fun acc s₃ =>
      wpAny M A (newFunctionEnv scope env.globals cl [] env.qual none .none (some env)) (fun cenv s₄ =>
        codeAny M A (.compStart e 0 it acc { cenv with scope := relabel scope env }) (compPostX M A E Q acc cenv.locals cenv.frame) s₄) E s₃) E s₂) E s₁) E s) :
    wpAny M A (comprehension e scope env pos newAcc false first none) Q E s := by
  unfold comprehension
  rw [hclos, hcl]
  refine wpAny_bind (wpAny_mono h (fun x s₁ h₁ => wpAny_bind (wpAny_standAt (wpAny_bind (wpAny_of_eq (hs x) (wpAny_bind (wpAny_holding (wpAny_mono h₁ (fun it s₂ h₂ =>
    wpAny_standIf (wpAny_bind (wpAny_mono h₂ (fun acc s₃ h₃ => wpAny_bind (wpAny_pure (wpAny_bind (wpAny_mono h₃ (fun cenv s₄ h₄ => ?_) fun _ _ h' => h')))) fun _ _ h' => h')))
      fun _ _ h' => h'))))))) fun _ _ h' => h')
  dsimp only
  have hv : ∀ x ∈ (scope.names.filter fun x => (x.2 == .local || x.2 == .cell) && x.1 != (".0" : Str)).reverse, x.2 = .local →
      Env.kindOf { cenv with scope := relabel scope env } x.1 = some .local := fun x hx hl => lookup_relabel_local (hnames x (List.mem_filter.mp (List.mem_reverse.mp hx)).1 hl)
  refine wpAny_holding (wpAny_bind (wpAny_attempt (wpAny_holding (wpAny_run (codeAny_mono h₄ fun r s' hr => ?_)))))
  cases r with
  | ok f =>
    obtain ⟨m, hn, hr⟩ := hr
    exact wpAny_bind (wpAny_holding (wpAny_comp_letGo (cenv := { cenv with scope := relabel scope env }) hkind _ s' m hv hn fun h' m' _ hs' => wpAny_pure (hr h' hs')))
  | error x =>
    obtain ⟨m, hn, hr⟩ := hr
    exact wpAny_bind (wpAny_holding (wpAny_comp_letGo (cenv := { cenv with scope := relabel scope env }) hkind _ s' m hv hn fun h' m' _ hs' => wpAny_mono (hr h' hs' _ rfl rfl) (fun _ _ f => f.elim) fun _ _ y => y))
end
theorem noteFrame_of {a : Value} {e1 e2 : PySem.Env} (h : e1.frame = e2.frame) : noteFrame a e1 = noteFrame a e2 := by
  unfold noteFrame PySem.frameOf
  rw [h]
section
variable {X : Cx} {pins : List (Addr × Obj)} {σ : L2.St} {E : XK}
/-- an exception that a call in the block let out leaves the comprehension -/
theorem lc_raise {H3 H5 : Hp} {s3 s5 s' : Shared} {scope : Scope} {ce : PySem.Env} {fp : List Addr} {pins5 : List (Addr × Obj)} {σ5 : L2.St} {u acc : Value} {Qf : Value → Shared → Prop}
    (hs : X.stack = X.env :: X.outer) (hf : X.env.frame = some X.env.locals) (tk : L2N.Takes X (fun cls d _ H => E cls d H))
    (I3 : Inv X pins σ H3 s3) (cL : ce.locals = s3.heap.objs.size) (cF : ce.frame = X.env.frame) (hfp : ∀ b ∈ fp, FpOk X pins H3 b ∧ b < s3.heap.objs.size)
    (I5 : Inv (X.blk s3 H3 scope ce fp) pins5 σ5 H5 s5) (c : L2N.CX X.prog X.w X.stack H5 s5 E u s') :
    notedBy (model X.prog X.w) X.A ce (fun e s'' => compPostX (model X.prog X.w) X.A X.xe Qf acc s3.heap.objs.size X.env.frame (.error e) s'') u s' := by
  obtain ⟨a, B, H', cls, d, rfl, fl, hok, ub, na, os, ag, hE⟩ := c
  have hfr : X.A.frames = some (X.env :: X.outer) := by rw [I3.ok.frames, hs]
  generalize hC : s3.heap.objs.size = C at cL hfp ⊢
  -- the block's names stand in the ground
  have nf : C ∉ frs X.stack := fun hm => by
    obtain ⟨_, o, e, _⟩ := I3.stack.mem hm
    exact Nat.lt_irrefl C (Nat.lt_of_lt_of_eq (Heap.lt_size e) hC)
  have hC5 : H5 C = none := by have z : H5 ce.locals = none := I5.free; rwa [cL] at z
  obtain ⟨m5, hn5, _⟩ := I5.loc
  have hn5 : s5.heap.Ns ce.locals m5 := hn5
  rw [cL] at hn5
  have hnB : B.Ns C m5 := by
    obtain ⟨o, es, ep, ho, r⟩ := hn5
    exact ⟨o, es, ep, ub.keep C o ho hC5 nf, r⟩
  have hC' : H' C = none := by
    obtain ⟨o, es, ep, ho, r⟩ := hn5
    exact ub.free C o ho hC5
  have aC : a ≠ C := fun z => by
    obtain ⟨o, es, ep, ho, r⟩ := hnB
    have := fl.2.1
    rw [z, ho] at this; cases this
  show wpAny _ _ (noteFrame (.ref a) ce) _ _ _
  rw [noteFrame_of cF]
  rw [hs] at fl
  refine PXN.looks_onZ L2N.Zn.steady hfr hf fl fun h1 held up1 => ?_
  have nf' : ∀ b ∈ frs X.stack, ∀ o, s'.heap.get? b = some o → ∀ vs, o.data ≠ .fields vs := fun b hb o e => by
    obtain ⟨_, _, hl, _⟩ := fl
    rw [hs] at hb
    obtain ⟨_, o', e', q⟩ := hl.mem hb
    rw [e] at e'; cases e'; exact q
  refine ⟨m5, ?_, fun h2 sb2 cenv _ cfr => ?_⟩
  · obtain ⟨o, es, ep, ho, r⟩ := hnB
    exact ⟨o, es, ep, held.1 C o ho, r⟩
  -- the ground without the block's names
  obtain ⟨B', hB'⟩ : ∃ B', B' = PySem.W.hideAll B [C] := ⟨_, rfl⟩
  have bB : ∀ b o, B'.get? b = some o → B.get? b = some o ∧ b ≠ C := fun b o e => by
    rw [hB'] at e
    refine ⟨PySem.W.of_hideAll _ e, fun z => ?_⟩
    rw [PySem.W.hideAll_none _ (by rw [z]; exact .head _)] at e; cases e
  have Bb : ∀ b o, B.get? b = some o → b ≠ C → B'.get? b = some o := fun b o e n => by
    rw [hB']
    exact PySem.W.hideAll_get _ e (by simpa using n)
  have noB : ∀ b, B.get? b = none → B'.get? b = none := fun b e => by
    cases q : B'.get? b with
    | none => rfl
    | some o => have := (bB b o q).1; rw [e] at this; cases this
  have held2 : HandSPX.HeldZ B' (X.env :: X.outer) a (L2N.Zn cls d) X.env.locals h2 := by
    obtain ⟨k1, k2, k3, oe, vs, T, oT, ts, he, hz, hd, h1', hnT, hTe, hT, hdT, h3⟩ := held
    have TC : T ≠ C := fun z => by
      obtain ⟨o, es, ep, ho, r⟩ := hnB
      rw [z, ho] at hnT; cases hnT
    refine ⟨fun b o e => (sb2.2 b (bB b o e).2).trans (k1 b o (bB b o e).1), noB a k2, ?_, oe, vs, T, oT, ts, (sb2.2 a aC).trans he, hz, hd, h1', noB T hnT, hTe, (sb2.2 T TC).trans hT, hdT, h3⟩
    have k4 : h1.FunFrames B' (X.env :: X.outer) := funFrames_none k3 fun L hL => noB L (k3.mem hL).1
    have : ∀ L ∈ frs (X.env :: X.outer), L ≠ C := fun L hL z => nf (by rw [hs, ← z]; exact hL)
    -- the frames' objects are not the block's names
    clear h3 h1' hd hz he hT hdT
    have key : ∀ l : List PySem.Env, h1.FunFrames B' l → (∀ L ∈ frs l, L ≠ C) → h2.FunFrames B' l := by
      intro l
      induction l with
      | nil => intro _ _; trivial
      | cons e r ih =>
        rintro ⟨q1, ⟨L, o, q2, q3, q4, q5⟩, q6⟩ hn
        refine ⟨q1, ⟨L, o, q2, q3, (sb2.2 L (hn L (List.mem_filterMap.mpr ⟨e, List.mem_cons_self, q2⟩))).trans q4, q5⟩, ih q6 fun L' hL' => hn L' ?_⟩
        obtain ⟨e', he', qe⟩ := List.mem_filterMap.mp hL'
        exact List.mem_filterMap.mpr ⟨e', List.mem_cons_of_mem _ he', qe⟩
    exact key _ k4 this
  -- it is passed on
  unfold PySem.passOn
  obtain ⟨_, _, _, oe, vs, T, oT, ts, he, hz, hd, h1', hnT, hTe, hT, hdT, h3⟩ := id held2
  refine wpAny_bind (wpAny_field he hd h1' ?_)
  rw [if_neg (show ¬ ((Value.ref T == Value.none) = true) from by simp)]
  rw [cfr, hf]
  clear h3 h1' hd hz he hT hdT hnT hTe
  refine wpAny_bind (HandSPX.setFlight_onZ held2 fun h3 held3 up3 => wpAny_throw ?_)
  -- in the air of X
  obtain ⟨G, g1, g2⟩ := restrict h3 fun b => (B'.get? b).isSome || decide (b ∈ frs X.stack)
  have gB : ∀ b o, B'.get? b = some o → G.get? b = some o := fun b o e => by
    rw [g1 b (by simp [e])]
    exact held3.1 b o e
  have gF : ∀ b, b ∈ frs X.stack → G.get? b = h3.get? b := fun b hb => g1 b (by simp [hb])
  have og : ∀ b o, G.get? b = some o → h3.get? b = some o ∧ ((B'.get? b).isSome = true ∨ b ∈ frs X.stack) := fun b o e => by
    cases q : ((B'.get? b).isSome || decide (b ∈ frs X.stack)) with
    | false => rw [g2 b q] at e; cases e
    | true =>
      rw [g1 b q] at e
      exact ⟨e, by simpa [Bool.or_eq_true] using q⟩
  -- a frame's object, up to its slots
  have fr3 : ∀ b ∈ frs X.stack, ∀ o, s5.heap.get? b = some o → ∃ sl, h3.get? b = some { o with slots := sl } := fun b hb o e => by
    obtain ⟨sl, q⟩ := ub.slot b o e hb
    have nd := nf' b hb _ q
    obtain ⟨sl1, q1⟩ := up1 b _ q nd
    have q2 : h2.get? b = _ := (sb2.2 b (fun z => nf (z ▸ hb))).trans q1
    obtain ⟨sl3, q3⟩ := up3 b _ q2 nd
    exact ⟨sl3, q3⟩
  have n3 : ∀ b o, s3.heap.get? b = some o → b ≠ C := fun b o e z => by
    rw [z] at e
    exact Nat.lt_irrefl C (Nat.lt_of_lt_of_eq (Heap.lt_size e) hC)
  refine tk _ _ ⟨a, B', { s3 with heap := G, gens := s'.gens, drawn := s'.drawn, toks := s'.toks }, pins, σ, H', cls, d, rfl, ?_, fun b o e hb => ?_, Heap.UpToSlots.of_keeps fun b o e => (og b o e).1, .inr (.inr (by rw [hs]; exact held3)), na, os.trans I5.os, ag, hE⟩
  · have u5 : Un (frs X.stack) fp H3 H5 s3.heap s5.heap := I5.base
    refine I3.call (ch := fp) ⟨fun b o e n hb hx => ?_, fun b o e n hb hx => ?_, fun b o e n hx => ?_, fun b o e hx => ?_, fun b xs e => ub.tups _ _ (u5.tups _ _ e), fun b o xs e => ub.frzs _ _ _ (u5.frzs _ _ _ e), fun b ps e => ?_⟩ ?_ ag
      (fun b hb => ⟨(hfp b hb).1.2.2.2.1, (hfp b hb).1.2.1, (hfp b hb).1.2.2.2.2.1, (hfp b hb).1.2.2.2.2.2⟩)
    · exact gB b o (Bb b o (ub.keep b o (u5.keep b o e n hb hx) (u5.free b o e n hx) hb) (n3 b o e))
    · obtain ⟨sl, q⟩ := u5.slot b o e n hb hx
      obtain ⟨sl3, q3⟩ := fr3 b hb _ q
      exact ⟨sl3, by rw [gF b hb]; exact q3⟩
    · obtain ⟨o', q⟩ := u5.there b o e hx
      exact ub.free b o' q (u5.free b o e n hx)
    · obtain ⟨o', q⟩ := u5.there b o e hx
      by_cases hb : b ∈ frs X.stack
      · obtain ⟨sl3, q3⟩ := fr3 b hb _ q
        exact ⟨_, by rw [gF b hb]; exact q3⟩
      · obtain ⟨o2, q2⟩ := ub.there b o' q hb
        exact ⟨o2, gB b o2 (Bb b o2 q2 (n3 b o e))⟩
    · obtain ⟨m1, q1⟩ := u5.tbls b ps e
      obtain ⟨m2, q2⟩ := ub.tbls b _ q1
      exact ⟨m1 ++ m2, by rw [q2, Array.append_assoc]⟩
    · intro b o q
      refine (hok b o q).stay (fun x v hx r => gB x v (Bb x v r fun z => ?_)) (fun _ r => r) fun _ _ r => r
      rcases hx with hx | hx
      · rw [← hx, z, hC'] at q; cases q
      · rw [z, hC'] at hx; cases hx
  · obtain ⟨e', h⟩ := og b o e
    rcases h with h | h
    · obtain ⟨o', q⟩ := Option.isSome_iff_exists.mp h
      have z := held3.1 b o' q
      rw [e'] at z; cases z
      exact q
    · exact absurd h hb
/-- the element, under any wish that takes what its calls let out -/
def EltX (X : Cx) (E : XK) (scope : Scope) (elt : Expr) (te : TE) : Prop := ∀ (s : Shared) (H : Hp) (C : Addr) (cl : List (Str × Addr)) (fp : List Addr) (xe : Value → Shared → Prop),
  Passes (L2N.CX X.prog X.w) ((X.blk s H scope (compEnvC scope cl C X.env) fp).wish xe) E → PE ((X.blk s H scope (compEnvC scope cl C X.env) fp).wish xe) elt te
theorem lc_coreX {s : Shared} {H : Hp} {Q : VK} {elt tg iter : Expr} {ifs : List Expr} {scope : Scope} {own : List (Str × Nat)} {pos pos' : Pos} {wi : TI} {g : TG} {tt : TT} {te : TE} {Qf : Value → Shared → Prop}
    (hst : X.stack = X.env :: X.outer) (hf : X.env.frame = some X.env.locals) (tk : L2N.Takes X (fun cls d _ H => E cls d H))
    (hc : X.calm = true) (hN : X.N.Nodup) (I : Inv X pins σ H s) (hi : PI X tg iter wi) (ok : BlkOk X.N X.env.scope scope own)
    (hg : ∀ (s : Shared) (H : Hp) (C : Addr) (cl : List (Str × Addr)) (fp : List Addr), PG (X.blk s H scope (compEnvC scope cl C X.env) fp) tg g) (ht : ∀ (s : Shared) (H : Hp) (C : Addr) (cl : List (Str × Addr)) (fp : List Addr), PTs (X.blk s H scope (compEnvC scope cl C X.env) fp) ifs tt)
    (he : EltX X E scope elt te) (hs : ∀ x, foldedSetIterable iter X.env x = pure x)
    (h : tLc wi g tt te (own.map (·.2)) σ H Q)
    (hRR : ∀ D C s' m H', Inv X pins σ H' s' → Q (.ref D) H' → s'.heap.Ns C m → FpOk X pins H' C → compPostX (model X.prog X.w) X.A X.xe Qf (.ref D) C X.env.frame (.ok .next) s') :
    wpAny (model X.prog X.w) X.A (comprehension (.ListComp elt [⟨tg, iter, ifs, 0⟩] scope pos) scope X.env pos' (newList []) false (eval iter X.env) none) Qf X.xe s := by
  have hfree : ∀ y ∈ scope.names, y.2 = .free → ∃ c, X.env.cells.lookup y.1 = some c := fun y hy e => by
    rcases ok.free y hy e with k | k
    · exact I.ok.has _ (.inl k)
    · exact I.ok.has _ (.inr k)
  refine comprehension_freeX rfl hs (closure_ok hfree) ok.kind (fun y hy e => by rw [ok.uniq y hy, e])
    (thn (hi.run pins s σ H _ I h) fun xv s1 hx => thn hx fun itv s2 h2 => ?_)
  obtain ⟨it, fp, tn, J, H2, e, I2, T, st2, f2, q⟩ := h2
  subst e
  refine wpAny_newObj_type (newEnv_comp ?_) (by show 0 ≤ sizeLine; decide)
  generalize hD : s2.heap.objs.size = D
  have hDn : H2 D = none := I2.hok.fresh (Nat.le_of_eq hD)
  obtain ⟨W, ⟨m0, w0⟩, turn⟩ := q D hDn
  -- the new list
  generalize hs3 : ({ s2 with heap := s2.heap.push { cls := .type "list", data := .seq ([] : List Value).toArray } } : Shared) = s3
  have I3 : Inv X pins σ (upd H2 D (.lst [])) s3 := by
    rw [← hs3]
    refine I2.laid (t' := s2.toks) (fun b o e => Heap.get?_push_of_some _ e) (Nat.le_of_eq hD) ⟨Nat.zero_le _, [], 0, .nil, ?_⟩
    rw [← hD]
    exact Heap.get?_push_size _ rfl
  have h3 : s3.heap = s2.heap.push { cls := .type "list", data := .seq ([] : List Value).toArray } := by rw [← hs3]
  have sz : ∀ b ∈ fp, b < s2.heap.objs.size := fun b hb => by
    obtain ⟨o, e, _⟩ := T.obj _ _ st2 b hb
    exact Heap.lt_size e
  have f3 : ∀ b ∈ fp, FpOk X pins (upd H2 D (.lst [])) b ∧ b < s3.heap.objs.size := fun b hb => by
    have hlt := sz b hb
    refine ⟨⟨?_, (f2 b hb).2⟩, by rw [h3, Heap.size_push]; exact Nat.lt_succ_of_lt hlt⟩
    rw [upd_ne (by rw [← hD]; exact Nat.ne_of_lt hlt)]
    exact (f2 b hb).1
  have st3 : tn 0 s3.heap := T.keep _ _ _ st2 fun b _ o e => by rw [h3]; exact Heap.get?_push_of_some _ e
  have I4 := block_start I3 ok hN f3
  have pg := hg s3 (upd H2 D (.lst [])) s3.heap.objs.size (cellsFrom (s3.heap.objs.size + 1) scope.names (cloFrom X.env.cells scope.names [])) fp
  have pt := ht s3 (upd H2 D (.lst [])) s3.heap.objs.size (cellsFrom (s3.heap.objs.size + 1) scope.names (cloFrom X.env.cells scope.names [])) fp
  have pe := he s3 (upd H2 D (.lst [])) s3.heap.objs.size (cellsFrom (s3.heap.objs.size + 1) scope.names (cloFrom X.env.cells scope.names [])) fp
  show codeAny _ _ (.compStart (.ListComp elt [⟨tg, iter, ifs, 0⟩] scope pos) 0 (.ref it) (.ref D) (compEnvC scope (cellsFrom (s3.heap.objs.size + 1) scope.names (cloFrom X.env.cells scope.names [])) s3.heap.objs.size X.env)) (compPostX (model X.prog X.w) X.A X.xe Qf (.ref D) s3.heap.objs.size X.env.frame) { s3 with heap := pushCells (s3.heap.push { cls := .type "dict", data := .dict #[] }) scope.names }
  have nfp : ∀ b ∈ fp, (upd H2 D (.lst [])) b = none := fun b hb => (f3 b hb).1.1
  generalize hce : compEnvC scope (cellsFrom (s3.heap.objs.size + 1) scope.names (cloFrom X.env.cells scope.names [])) s3.heap.objs.size X.env = ce at I4 pg pt pe ⊢
  have cL : ce.locals = s3.heap.objs.size := by subst hce; rfl
  have cF : ce.frame = X.env.frame := by subst hce; rfl
  generalize hH3 : upd H2 D (.lst []) = H3 at I3 I4 pg pt pe w0 nfp f3
  generalize hs4 : ({ s3 with heap := pushCells (s3.heap.push { cls := .type "dict", data := .dict #[] }) scope.names } : Shared) = s4 at I4 ⊢
  have st4 : tn 0 s4.heap := T.keep _ _ _ st3 fun b _ o e => by rw [← hs4]; exact pushCells_keeps _ _ _ _ (Heap.get?_push_of_some _ e)
  have stat : ∀ {σ' : L2.St} {H' : Hp} {s' : Shared}, Inv (X.blk s3 H3 scope ce fp) [] σ' H' s' → (∀ b ∈ fp, H' b = none) → ∀ b ∈ fp, FpOk (X.blk s3 H3 scope ce fp) [] H' b := fun {σ' H' s'} I' hn b hb =>
    ⟨hn b hb, (I'.ok.exf b hb).1, I'.ok.exfs b hb, .inl hb, fun x c e => (I'.ok.exf b hb).2 x c e, fun p hp => absurd (show p ∈ ([] : List (Addr × Obj)) ++ [] from hp) (by simp)⟩
  have loop : codeAny (model X.prog X.w) X.A (.compLoop (.ListComp elt [⟨tg, iter, ifs, 0⟩] scope pos) 0 (.ref it) (.ref D) ce) (compPostX (model X.prog X.w) X.A X.xe Qf (.ref D) s3.heap.objs.size X.env.frame) s4 := by
    refine compLoop_any (fun n s' => ∃ i H', Inv (X.blk s3 H3 scope ce fp) [] (wipe σ (own.map (·.2))) H' s' ∧ tn i s'.heap ∧ (∀ b ∈ fp, H' b = none) ∧ W i n H') ?_ m0 ⟨0, H3, I4, st4, nfp, w0⟩
    rintro n s5 ⟨i, H5, I5, st5, n5, w5⟩
    rcases turn i n H5 w5 with ⟨stop, qq⟩ | ⟨go, Nx, hNx, step⟩
    · have td := T.done (X.blk s3 H3 scope ce fp) rfl rfl rfl hc i [] s5 _ H5 (fun _ _ => False) I5 (stat I5 n5) st5 stop
      refine thnF td fun r s6 ⟨hr, I6⟩ => ?_
      subst hr
      -- back in the def's context
      have I7 : Inv X pins σ H5 s6 := I3.call' (ch := fp) I6.os I6.base I6.hok I6.bare fun b hb => ⟨(f3 b hb).1.2.2.2.1, (f3 b hb).1.2.1, (f3 b hb).1.2.2.2.2.1, (f3 b hb).1.2.2.2.2.2⟩
      have nC : H5 s3.heap.objs.size = none := by
        have z : H5 ce.locals = none := I6.free
        rw [cL] at z
        exact z
      obtain ⟨m, hn, _⟩ := I6.loc
      have hn : s6.heap.Ns ce.locals m := hn
      rw [cL] at hn
      exact hRR D s3.heap.objs.size s6 m H5 I7 qq hn (I3.fpOk (Nat.le_refl _) nC)
    · have ti := T.item (X.blk s3 H3 scope ce fp) rfl rfl rfl hc i [] s5 _ H5 (fun _ _ => False) I5 (stat I5 n5) st5 go
      refine thnF ti fun r s6 ⟨u, hr, h6⟩ => ?_
      subst hr
      refine thnF h6 fun _ s7 ⟨x, H7, I7, r7, y7, st7, n7⟩ => ?_
      have I7' := I7.pinned (stat I7 n7) (T.obj _ _ st7)
      refine thnF (pg.run _ s7 _ H7 x u _ I7' r7 (step x H7 y7)) fun _ s8 ⟨σ8, H8, I8, hw8, q8⟩ => ?_
      refine thnF (pt.run _ s8 σ8 H8 _ I8 q8) fun b s9 ⟨H9, I9, q9⟩ => ?_
      -- the turn's end
      have fin : ∀ {s' : Shared} {H' : Hp}, Inv (X.blk s3 H3 scope ce fp) ([] ++ pinsAt fp s7.heap) σ8 H' s' → Nx H' → ∃ m, m < n ∧ ∃ i H', Inv (X.blk s3 H3 scope ce fp) [] (wipe σ (own.map (·.2))) H' s' ∧ tn i s'.heap ∧ (∀ b ∈ fp, H' b = none) ∧ W i m H' := fun {s' H'} I' nx => by
        obtain ⟨m', hm, w'⟩ := hNx H' nx
        have pin' : ∀ b ∈ fp, ∀ o, s7.heap.get? b = some o → s'.heap.get? b = some o ∧ H' b = none := fun b hb o e =>
          let z := I'.pin (b, o) (List.mem_append_right _ (List.mem_append_right _ (mem_pinsAt hb e)))
          ⟨z.1, z.2.1⟩
        have hl : (wipe σ (own.map (·.2))).length = σ8.length := by rw [← hw8, wipe_length]
        refine ⟨m', hm, i + 1, H', (I'.unpinned (pins := [])).weak hl (fun j v e => ?_), T.keep _ _ _ st7 fun b hb o e => (pin' b hb o e).1, fun b hb => ?_, w'⟩
        · rw [← hw8] at e
          exact (wipe_some e).1
        · obtain ⟨o, e, _⟩ := T.obj _ _ st7 b hb
          exact (pin' b hb o e).2
      cases b with
      | false =>
        simp only [Bool.false_eq_true, if_false] at q9 ⊢
        exact fin I9 q9
      | true =>
        simp only [if_true] at q9 ⊢
        have pe' := pe (notedBy (model X.prog X.w) X.A ce fun e s'' => compPostX (model X.prog X.w) X.A X.xe Qf (.ref D) s3.heap.objs.size X.env.frame (.error e) s'')
          (fun pins5 σ5 H5 s5 e s' I5 c => lc_raise hst hf tk I3 cL cF f3 I5.unwish c)
        refine thn (pe'.run _ s9 σ8 H9 _ (I9.wish _) q9) fun z s10 ⟨yv, H10, I10, r10, acc, hD10, hz10, nx⟩ => ?_
        exact app_ok (X := X.blk s3 H3 scope ce fp) I10.unwish hD10 hz10 r10 fun s11 I11 => fin I11 nx
  exact codeAny_compStart_list loop (T.self X.A 0 _ _ _ st4 loop)
/-- as a value -/
theorem pe_lcX {elt tg iter : Expr} {ifs : List Expr} {scope : Scope} {own : List (Str × Nat)} {pos : Pos} {wi : TI} {g : TG} {tt : TT} {te : TE} (hst : X.stack = X.env :: X.outer) (hf : X.env.frame = some X.env.locals) (tk : L2N.Takes X (fun cls d _ H => E cls d H)) (hc : X.calm = true) (hN : X.N.Nodup) (hi : PI X tg iter wi) (ok : BlkOk X.N X.env.scope scope own)
    (hg : ∀ (s : Shared) (H : Hp) (C : Addr) (cl : List (Str × Addr)) (fp : List Addr), PG (X.blk s H scope (compEnvC scope cl C X.env) fp) tg g) (ht : ∀ (s : Shared) (H : Hp) (C : Addr) (cl : List (Str × Addr)) (fp : List Addr), PTs (X.blk s H scope (compEnvC scope cl C X.env) fp) ifs tt)
    (he : EltX X E scope elt te) (hs : ∀ x, foldedSetIterable iter X.env x = pure x := by intro _; rfl) :
    PE X (.ListComp elt [⟨tg, iter, ifs, 0⟩] scope pos) (tLc wi g tt te (own.map (·.2))) := by
  refine ⟨fun pins s σ H Q I h => ?_⟩
  rw [eval_ListComp]
  refine lc_coreX hst hf tk hc hN I hi ok hg ht he hs h fun D C s' m H' I' q hn f => ⟨m, hn, fun h'' sb => ?_⟩
  obtain ⟨f0, f1, f2, f3, f4, f5⟩ := f
  exact ⟨.ref D, H', I'.turned (t' := s'.toks) (fun b o hb e => (sb.2 b hb).trans e) f0 f1 f3 f4 f5, rfl, q⟩
/-- a call whose exception goes where the wish says -/
theorem pe_calP {k : Nat} {x : Str} {ps : List Str} {sp : Sp} {e : Expr} {es : List Expr} {t : TA} {p pos : Pos} (c : Cal X.prog X.w X.K X.mg X.base k x ps sp) (hr : Room k X.A) (hg : Gl X x) (hx : Passes (L2N.CX X.prog X.w) X E) (ha : PA X (e :: es) t)
    (hdb : (x == ("__debug__" : Str)) = false := by decide) (he : starEach (e :: es) X.env = (false, eval e X.env) :: starEach es X.env := by rfl) (hpl : (backTo pos (starEach es X.env)).any (·.1) = false := by rfl) :
    PE X (.Call (.Name x p) (e :: es) [] pos) (tCall sp [] E t) := by
  obtain ⟨f, fd, F, hm, hk, hb⟩ := c.ex
  exact pe_call F hr hg hm hk hb .nil hx ha hdb he hpl
end
end DL
/-! TxR: the data logic's rules for texts, and for expressions that raise. -/
namespace DL
open PySem L2
open Evl (Ex)
/-! ### expressions that raise -/
/-- e raises C -/
def EXr (T : TL) (X : XK) (te : TE) (ρ : List Sl) (C : Addr) : Prop := ∀ F W B H σ (Q : VK), Env T F W B H σ ρ → (∀ B' H' ρ', Ex B B' → Env T F W B' H' σ ρ' → X (.ref C) none H') → te σ H Q
abbrev noS (n : Nat) : List Sl := List.replicate n .no
theorem noS_get {n i : Nat} {s : Sl} (h : (noS n)[i]? = some s) : s = .no ∧ i < n := by
  rw [List.getElem?_replicate] at h
  split at h
  · exact ⟨(Option.some.inj h).symm, by assumption⟩
  · cases h
section
variable {T : TL} {X : XK} {te ta tb tl : TE} {tt : TT} {t u : TS} {ρ ρ1 ρ2 ρ3 : List Sl} {d e x y z : PyData} {ds es fs pre post : List PyData} {g : TG} {i j : Nat} {K : PySem.W.Frag} {C : Addr}
theorem Env.bare {F : Hp} {W : Addr → Prop} {B H : Hp} {σ : Sigma} (E : Env T F W B H σ ρ) (σ' : Sigma) : Env T F W B H σ' (noS σ'.length) where
  fh := E.fh
  bh := E.bh
  wf := E.wf
  wb := E.wb
  tb := E.tb
  ft := E.ft
  bt := E.bt
  ln := by simp
  sl := fun i s hs => by
    obtain ⟨rfl, hi⟩ := noS_get hs
    exact ⟨σ'[i], by simp [hi], trivial⟩
  ne := fun i j p q q' ds es hij h => by
    have := (noS_get h).1
    cases this
theorem exr_call {ta : TA} {R : List PyData → Res → Prop} (h : EA T ta ρ ds ρ1) (hR : R ds (.ex C)) : EXr T X (tCall (spP R) [] X ta) ρ C := fun F W B H σ Q Ev k =>
  h F W B H σ _ Ev fun vs B1 H1 e1 E1 q1 => by
    show spP R (vs ++ []) H1 _ X
    rw [List.append_nil]
    exact ⟨B1, ds, .ex C, E1.bh, E1.bt, q1, hR, fun B' H' g => k B' H' _ (e1.trans g.bb) (E1.grow g)⟩
theorem exr_tup1 {tr : TA} (h : EXr T X te ρ C) : EXr T X (tTup (tCons te tr)) ρ C := fun F W B H σ Q Ev k => h F W B H σ _ Ev k
theorem exr_tup2 {tr : TA} (h : EE T te ρ d ρ1) (h2 : EXr T X tb ρ1 C) : EXr T X (tTup (tCons te (tCons tb tr))) ρ C := fun F W B H σ Q Ev k =>
  h F W B H σ _ Ev fun v B1 H1 e1 E1 q1 => h2 F W B1 H1 σ _ E1 fun B' H' ρ' e' => k B' H' ρ' (e1.trans e')
theorem exr_cb1 {tr : TA} {r : List V → Hp → VK → Prop} (h : EXr T X te ρ C) : EXr T X (tCB r (tCons te tr)) ρ C := fun F W B H σ Q Ev k => h F W B H σ _ Ev k
theorem ss_setX (h : EXr T X te ρ C) : SS T X (tAsg te g) ρ (.ex C (noS ρ.length)) := fun F W D B H σ Ev k =>
  h F W B H σ _ Ev fun B' H' ρ' e' E' => k σ B' H' e' (by rw [← Ev.ln]; exact E'.bare σ)
theorem ss_retX (h : EXr T X te ρ C) : SS T X (tRet te) ρ (.ex C (noS ρ.length)) := fun F W D B H σ Ev k =>
  h F W B H σ _ Ev fun B' H' ρ' e' E' => k σ B' H' e' (by rw [← Ev.ln]; exact E'.bare σ)
/-- [e for j in l], raised at the item d -/
theorem exr_lcL (h : EE T tl ρ (.list (pre ++ d :: post)) ρ1) (R : LcR (LcT T (gName j) tYes te [j]) pre ρ1 es ρ1) (hl : es.length ≤ 100000) (hr : EXr T X te (ρ1.set j (.dat d)) C) : EXr T X (tLc (iList K tl) (gName j) tYes te [j]) ρ C := fun F W B H σ Q E k =>
  h F W B H σ _ E fun v B1 H1 e1 E1 q1 => by
    obtain ⟨a, xs, f1, f2, q⟩ := q1.inv_lst
    refine ⟨a, f1, ⟨xs, SqL.of (E1.bh _ _ f2)⟩, fun D hD => lc_list (xs := xs) (fun i H => i ≤ pre.length ∧ LcI T (gName j) tYes te [j] F W B1 σ D pre es ρ1 i H) ⟨Nat.zero_le _, lc_start E1 hD R⟩ (fun i H _ ⟨_, B', ρi, _, _, _, e, E, _⟩ => SqL.of (E.bh _ _ (e _ _ f2))) (fun i x H hx ⟨hi, I⟩ => ?_) (fun H ⟨hi, _⟩ => ?_)⟩
    · obtain ⟨d', hd, qd⟩ := q.getV hx
      rcases Nat.lt_or_ge i pre.length with hlt | hge
      · have hp : ∀ H, (i + 1 ≤ pre.length ∧ LcI T (gName j) tYes te [j] F W B1 σ D pre es ρ1 (i + 1) H) = LcI T (gName j) tYes te [j] F W B1 σ D pre es ρ1 (i + 1) H := fun H => propext ⟨And.right, fun h => ⟨hlt, h⟩⟩
        simp only [hp]
        rw [List.getElem?_append_left hlt] at hd
        exact lc_turn hd hl (fun B' e => qd.mono e) I
      · have ei : i = pre.length := Nat.le_antisymm hi hge
        subst ei
        rw [List.getElem?_append_right (Nat.le_refl _), Nat.sub_self] at hd
        have ed : d = d' := by simpa using hd
        subst ed
        obtain ⟨B', ρi, ys, acc, rest, e2, E2, h1, h2, h3, h4, h5, R', he⟩ := I
        rw [List.drop_length] at R'
        cases R'
        have Eh := ((E2.hide h1 h4 h3).wipe (vs := [j])).set (i := j) (qd.mono e2)
        have ew : (wipeS ρ1 [j]).set j (.dat d) = ρ1.set j (.dat d) := by
          show (ρ1.set j .no).set j (.dat d) = _
          rw [List.set_set]
        rw [ew] at Eh
        refine ⟨wipe1_set σ j x, ?_⟩
        show te _ _ _
        refine hr _ _ _ _ _ _ Eh fun B3 H3 ρ3 e3 E3 => ?_
        exact k B3 H3 _ ((e1.trans e2).trans e3) ((Env.unhide h2 E3 E2.wf E2.ft).1.bare σ)
    · have hq := q.length
      rw [List.length_append, List.length_cons] at hq
      omega
/-! ### texts -/
theorem re_addS {a b : Str} (h : a.length + b.length ≤ 100000) : RE (fun x y H Q => ∃ i j, x = V.str i ∧ y = V.str j ∧ i.length + j.length ≤ sizeLine ∧ Q (.str (i ++ j)) H) (.str a) (.str b) (.str (a ++ b)) := fun B H vx vy Q e bt h1 h2 k => by
  have e1 := h1.inv_str; have e2 := h2.inv_str
  subst e1 e2
  exact ⟨a, b, rfl, rfl, sz_of h, k _ B H (Grow.refl e) (.str _)⟩
theorem re_neS {a b : Str} : RE rNe (.str a) (.str b) (.bool (!decide (a = b))) := fun B H vx vy Q e bt h1 h2 k => by
  have e1 := h1.inv_str; have e2 := h2.inv_str
  subst e1 e2
  refine ⟨rfl, ?_⟩
  have : decide (V.str a = V.str b) = decide (a = b) := by simp
  rw [this]
  exact k _ B H (Grow.refl e) (.bl _)
theorem re_ixS {z : Str} {i : Int} {c : Nat} (hz : z.length ≤ 100000) (h : atI z.cps.toList i = some c) : RE rIxS (.str z) (.int i) (.str ⟨#[c]⟩) := fun B H vx vy Q e bt h1 h2 k => by
  have e1 := h1.inv_str; have e2 := h2.inv_int
  subst e1 e2
  exact ⟨z, i, c, rfl, rfl, sz_of hz, h, k _ B H (Grow.refl e) (.str _)⟩
theorem re_niS {c : Nat} {z : Str} : RE (fun x y H Q => ∃ (c : Nat) (z : Str), x = V.str ⟨#[c]⟩ ∧ y = V.str z ∧ Q (.bl (!decide (c ∈ z.cps.toList))) H) (.str ⟨#[c]⟩) (.str z) (.bool (!decide (c ∈ z.cps.toList))) := fun B H vx vy Q e bt h1 h2 k => by
  have e1 := h1.inv_str; have e2 := h2.inv_str
  subst e1 e2
  exact ⟨c, z, rfl, rfl, k _ B H (Grow.refl e) (.bl _)⟩
theorem rb_strI {n : Int} (h : -(10 ^ 15) < n ∧ n < 10 ^ 15) : RB (fun xs H Q => ∃ i, xs = [V.int i] ∧ i.natAbs.log2 < 1920 ∧ Q (.str (toString i)) H) [.int n] (.str (toString n)) := fun B H vs Q e bt q k => by
  obtain ⟨v, rfl, q0⟩ := dt1 q
  have e1 := q0.inv_int
  subst e1
  refine ⟨n, rfl, ?_, k _ B H (Grow.refl e) (.str _)⟩
  by_cases h0 : n.natAbs = 0
  · rw [h0]; decide
  · rw [Nat.log2_lt h0]
    exact Nat.lt_of_lt_of_le (show n.natAbs < 2 ^ 50 by omega) (Nat.pow_le_pow_right (by decide) (by decide))
theorem rb_lenS {a : Str} (h : a.length ≤ 100000) : RB (fun xs H Q => ∃ z, xs = [V.str z] ∧ z.length ≤ sizeLine ∧ Q (.int z.length) H) [.str a] (.int a.length) := fun B H vs Q e bt q k => by
  obtain ⟨v, rfl, q0⟩ := dt1 q
  have e1 := q0.inv_str
  subst e1
  exact ⟨a, rfl, sz_of h, k _ B H (Grow.refl e) (.int _)⟩
theorem rb_intS {a : Str} {n : Int} (h : a.length ≤ 640) (hn : PySem.intText? a = some n) : RB (fun xs H Q => ∃ a n, xs = [V.str a] ∧ PySem.intText? a = some n ∧ a.length ≤ 640 ∧ Q (.int n) H) [.str a] (.int n) := fun B H vs Q e bt q k => by
  obtain ⟨v, rfl, q0⟩ := dt1 q
  have e1 := q0.inv_str
  subst e1
  exact ⟨a, n, rfl, hn, h, k _ B H (Grow.refl e) (.int _)⟩
theorem ee_slS {tl th : TO} {lo hi : Option Int} {a : Str} (hz : a.length ≤ 100000) (h : EE T te ρ (.str a) ρ1) (h1 : EO T tl ρ1 lo ρ2) (h2 : EO T th ρ2 hi ρ3) : EE T (tSl rSlS te tl th) ρ (.str (cutS a lo hi)) ρ3 := fun F W B H σ Q E k =>
  h F W B H σ _ E fun v B1 H1 e1 E1 q1 => h1 F W B1 H1 σ _ E1 fun B2 H2 e2 E2 => h2 F W B2 H2 σ _ E2 fun B3 H3 e3 E3 =>
    ⟨a, q1.inv_str, sz_of hz, k _ B3 H3 ((e1.trans e2).trans e3) E3 (.str _)⟩
theorem DtAll.strs {B : Hp} : ∀ {ys : List Str} {vs : List V}, DtAll B vs (ys.map PyData.str) → vs = ys.map V.str
  | [], _, h => by cases h; rfl
  | n :: ns, _, h => by
    cases h with
    | cons h1 h2 =>
      have e := h1.inv_str
      subst e
      rw [DtAll.strs h2]
      rfl
theorem DtAll.of_strs {B : Hp} : ∀ (ys : List Str), DtAll B (ys.map V.str) (ys.map PyData.str)
  | [] => .nil
  | n :: ns => .cons (.str n) (DtAll.of_strs ns)
def rJoin (K : PySem.W.Frag) : V → List V → Hp → VK → Prop := fun x xs H Q => ∃ a p, ∃ ys : List Str, x = .str a ∧ xs = [.ref p] ∧ (SqL K H p (ys.map V.str) ∨ SqT K H p (ys.map V.str)) ∧ (ys.map (·.length)).sum + ys.length * a.length ≤ 16777216 ∧ Q (.str (Txt.join a ys)) H
theorem joinK {X : Cx} {o e : Expr} {to te : TE} {apos pos : Pos} (h : X.K = K) (ho : PE X o to) (he : PE X e te) (hs : starEach [e] X.env = [(false, eval e X.env)] := by rfl) (hbase : attributeBase o "join" X.env (eval o X.env) = eval o X.env := by rfl) (hline : (apos.endLine == pos.line) = true := by rfl) :
    PE X (.Call (.Attribute o "join" apos) [e] [] pos) (tM1 (rJoin K) to te) := by subst h; exact pe_join ho he hs hbase hline
theorem ee_join {a : Str} {ys : List Str} (h : EE T ta ρ (.str a) ρ1) (h2 : EE T tb ρ1 (.list (ys.map PyData.str)) ρ2) (hz : (ys.map (·.length)).sum + ys.length * a.length ≤ 16777216) : EE T (tM1 (rJoin K) ta tb) ρ (.str (Txt.join a ys)) ρ2 := fun F W B H σ Q E k =>
  h F W B H σ _ E fun v B1 H1 e1 E1 q1 => ⟨⟨a, q1.inv_str⟩, h2 F W B1 H1 σ _ E1 fun v2 B2 H2 e2 E2 q2 => by
    obtain ⟨p, xs, f1, f2, q⟩ := q2.inv_lst
    have := q.strs
    subst this f1
    exact ⟨a, p, ys, q1.inv_str, rfl, .inl (SqL.of (E2.bh _ _ f2)), hz, k _ B2 H2 (e1.trans e2) E2 (.str _)⟩⟩
theorem el_split {a b : Str} (h : EE T ta ρ (.str a) ρ1) (h2 : EE T tb ρ1 (.str b) ρ2) (hb : (b.length == 0) = false) (hz : a.length ≤ 100000) :
    EL T (tM1 (fun x xs H Q => ∃ a b, x = V.str a ∧ xs = [V.str b] ∧ (b.length == 0) = false ∧ a.length + 2 ≤ sizeLine ∧ rNewStrs (Txt.split a b) H Q) ta tb) ρ ((Txt.split a b).map PyData.str) ρ2 := fun F W B H σ Q E k =>
  h F W B H σ _ E fun v B1 H1 e1 E1 q1 => ⟨⟨a, q1.inv_str⟩, h2 F W B1 H1 σ _ E1 fun v2 B2 H2 e2 E2 q2 => by
    have := q2.inv_str
    subst this
    exact ⟨a, b, q1.inv_str, rfl, hb, Nat.le_trans (Nat.add_le_add_right hz 2) (by decide), fun p hp => k p _ B2 _ (e1.trans e2) (E2.grow (Grow.junk E2.bh hp)) (Evl.fresh_back E2.bh hp) (Evl.fresh_back E2.fh hp) upd_same (DtAll.of_strs _) (E2.notOwn hp)⟩⟩
end
end DL
/-! K20: texts of webs, over lists of code points. -/
namespace U
open PySem L2 DL
abbrev cp (s : Str) : List Nat := s.cps.toList
def ts (n : Int) : Str := toString n
theorem ts_dig {n : Int} (h : 0 ≤ n ∧ n ≤ 9) : cp (ts n) = [n.toNat + 48] := by
  have : n = 0 ∨ n = 1 ∨ n = 2 ∨ n = 3 ∨ n = 4 ∨ n = 5 ∨ n = 6 ∨ n = 7 ∨ n = 8 ∨ n = 9 := by omega
  rcases this with rfl | rfl | rfl | rfl | rfl | rfl | rfl | rfl | rfl | rfl <;> decide +kernel
def dig : List Nat → Option Int
  | [c] => if 48 ≤ c ∧ c ≤ 57 then some ((c : Int) - 48) else none
  | _ => none
theorem dig_eq {l : List Nat} {n : Int} (h : dig l = some n) : (0 ≤ n ∧ n ≤ 9) ∧ l = [n.toNat + 48] := by
  unfold dig at h
  split at h
  · split at h
    · cases h
      refine ⟨by omega, ?_⟩
      congr 1
      omega
    · cases h
  · cases h
theorem dig_ts {n : Int} (h : 0 ≤ n ∧ n ≤ 9) : dig (cp (ts n)) = some n := by
  rw [ts_dig h]
  show (if 48 ≤ n.toNat + 48 ∧ n.toNat + 48 ≤ 57 then some (((n.toNat + 48 : Nat) : Int) - 48) else none) = _
  rw [if_pos (by omega)]
  congr 1
  omega
def lineL : List Nat → Option (Int × Int)
  | [a, b, c] => if b = 45 then (match dig [a], dig [c] with
    | some x, some y => some (x, y)
    | _, _ => none) else none
  | _ => none
def wl (p : Int × Int) : List Nat := cp (ts p.1) ++ 45 :: cp (ts p.2)
theorem lineL_eq {l : List Nat} {p : Int × Int} (h : lineL l = some p) : l = wl p := by
  unfold lineL at h
  split at h
  · split at h
    · rename_i a b c hb
      subst hb
      split at h
      · rename_i x y h1 h2
        cases h
        obtain ⟨b1, e1⟩ := dig_eq h1
        obtain ⟨b2, e2⟩ := dig_eq h2
        unfold wl
        rw [ts_dig b1, ts_dig b2, ← e1, ← e2]
        rfl
      · cases h
    · cases h
  · cases h
theorem lineL_wl {p : Int × Int} (h1 : 0 ≤ p.1 ∧ p.1 ≤ 9) (h2 : 0 ≤ p.2 ∧ p.2 ≤ 9) : lineL (wl p) = some p := by
  have e1 := dig_ts h1
  have e2 := dig_ts h2
  unfold wl
  rw [ts_dig h1] at e1 ⊢
  rw [ts_dig h2] at e2 ⊢
  show (if (45 : Nat) = 45 then (match dig [p.1.toNat + 48], dig [p.2.toNat + 48] with
    | some x, some y => some (x, y)
    | _, _ => none) else none) = some p
  rw [e1, e2, if_pos rfl]
def linesL : List (List Nat) → Option (List (Int × Int))
  | [] => some []
  | w :: ws => match lineL w, linesL ws with
    | some p, some ps => some (p :: ps)
    | _, _ => none
theorem linesL_eq : ∀ {ws : List (List Nat)} {ps : List (Int × Int)}, linesL ws = some ps → ws = ps.map wl
  | [], ps, h => by cases h; rfl
  | w :: ws, ps, h => by
    unfold linesL at h
    split at h
    · rename_i p qs h1 h2
      cases h
      rw [lineL_eq h1, linesL_eq h2]
      rfl
    · cases h
theorem linesL_wl : ∀ {ps : List (Int × Int)}, (∀ p ∈ ps, (0 ≤ p.1 ∧ p.1 ≤ 9) ∧ (0 ≤ p.2 ∧ p.2 ≤ 9)) → linesL (ps.map wl) = some ps
  | [], _ => rfl
  | p :: ps, h => by
    have h1 := lineL_wl (h p List.mem_cons_self).1 (h p List.mem_cons_self).2
    have h2 := linesL_wl (ps := ps) fun q hq => h q (List.mem_cons_of_mem _ hq)
    show (match lineL (wl p), linesL (ps.map wl) with
      | some p, some ps => some (p :: ps)
      | _, _ => none) = _
    rw [h1, h2]
abbrev spW (l : List Nat) : List (List Nat) := _root_.TL.spl [32] 0 [] l
theorem spl_ne (acc l : List Nat) : _root_.TL.spl [32] 0 acc l ≠ [] := by
  induction l generalizing acc with
  | nil => rw [_root_.TL.spl_nil]; simp
  | cons c r ih =>
    show (if _root_.TL.pre [32] (c :: r) = true then acc :: _root_.TL.spl [32] 0 [] r else _root_.TL.spl [32] 0 (acc ++ [c]) r) ≠ []
    split
    · simp
    · exact ih _
theorem pre32 (c : Nat) (r : List Nat) : _root_.TL.pre [32] (c :: r) = (c == 32) := by
  unfold _root_.TL.pre
  simp
theorem join_spl (acc l : List Nat) : _root_.TL.joinL [32] (_root_.TL.spl [32] 0 acc l) = acc ++ l := by
  induction l generalizing acc with
  | nil => rw [_root_.TL.spl_nil]; simp [_root_.TL.joinL]
  | cons c r ih =>
    show _root_.TL.joinL [32] (if _root_.TL.pre [32] (c :: r) = true then acc :: _root_.TL.spl [32] 0 [] r else _root_.TL.spl [32] 0 (acc ++ [c]) r) = _
    rw [pre32]
    by_cases hc : c = 32
    · subst hc
      have hn := spl_ne [] r
      have ih := ih []
      rw [if_pos (by simp)]
      cases hs : _root_.TL.spl [32] 0 [] r with
      | nil => exact absurd hs hn
      | cons q t =>
        rw [hs] at ih
        show acc ++ ([32] ++ _root_.TL.joinL [32] (q :: t)) = _
        rw [ih]
        rfl
    · rw [if_neg (by simpa using hc), ih]
      simp
theorem join_cons (p : List Nat) : ∀ (ws : List (List Nat)), _root_.TL.joinL [32] (p :: ws) = p ++ (ws.map fun w => 32 :: w).flatten
  | [] => by simp [_root_.TL.joinL]
  | q :: r => by
    show p ++ ([32] ++ _root_.TL.joinL [32] (q :: r)) = _
    rw [join_cons q r]
    simp
theorem spW_eq (l : List Nat) : ∃ w ws, spW l = w :: ws ∧ l = w ++ (ws.map fun w => 32 :: w).flatten := by
  have hn := spl_ne [] l
  have hj := join_spl [] l
  cases hs : _root_.TL.spl [32] 0 [] l with
  | nil => exact absurd hs hn
  | cons w ws =>
    rw [hs, join_cons] at hj
    exact ⟨w, ws, hs, by simpa using hj.symm⟩
theorem parts_len : ∀ (ws : List (List Nat)), ws.length ≤ ((ws.map fun w => 32 :: w).flatten).length ∧ ∀ w ∈ ws, w.length ≤ ((ws.map fun w => 32 :: w).flatten).length
  | [] => ⟨by simp, by simp⟩
  | q :: r => by
    obtain ⟨h1, h2⟩ := parts_len r
    simp only [List.map_cons, List.flatten_cons, List.length_append, List.length_cons, List.mem_cons]
    refine ⟨by omega, ?_⟩
    rintro w (rfl | hw)
    · omega
    · have := h2 w hw; omega
/-- what parse_web gives -/
def parseL (l : List Nat) : Option Wb := match spW l with
  | [] => none
  | w :: ws => match dig w, linesL ws with
    | some n, some ps => if okW (n, ps) = true then some (n, ps) else none
    | _, _ => none
def wrtL (w : Wb) : List Nat := cp (ts w.1) ++ (w.2.map fun p => 32 :: wl p).flatten
theorem parseL_eq {l : List Nat} {w : Wb} (h : parseL l = some w) : okW w = true ∧ wrtL w = l := by
  obtain ⟨a, ws, e1, e2⟩ := spW_eq l
  unfold parseL at h
  rw [e1] at h
  simp only at h
  split at h
  · rename_i n ps h1 h2
    split at h
    · rename_i hok
      cases h
      refine ⟨hok, ?_⟩
      obtain ⟨b1, d1⟩ := dig_eq h1
      have d2 := linesL_eq h2
      rw [e2]
      unfold wrtL
      rw [ts_dig b1, ← d1, d2, List.map_map]
      rfl
    · cases h
  · cases h
theorem okW_dig {w : Wb} (h : okW w = true) : (0 ≤ w.1 ∧ w.1 ≤ 9) ∧ ∀ p ∈ w.2, (0 ≤ p.1 ∧ p.1 ≤ 9) ∧ (0 ≤ p.2 ∧ p.2 ≤ 9) := by
  unfold okW at h
  simp only [Bool.and_eq_true, decide_eq_true_eq, List.all_eq_true] at h
  refine ⟨by omega, fun p hp => ?_⟩
  have := h.2.1 p hp
  unfold lineB at this
  simp only [Bool.and_eq_true, decide_eq_true_eq] at this
  omega
theorem no32 {n : Int} (h : 0 ≤ n ∧ n ≤ 9) : 32 ∉ cp (ts n) := by
  rw [ts_dig h]
  simp
theorem parseL_wrt {w : Wb} (h : okW w = true) : parseL (wrtL w) = some w := by
  obtain ⟨h1, h2⟩ := okW_dig h
  have e : spW (wrtL w) = cp (ts w.1) :: w.2.map wl := by
    have := _root_.TL.spl_join (s := 32) (S := []) (parts := cp (ts w.1) :: w.2.map wl) (by simp) (fun p hp => by
      rcases List.mem_cons.mp hp with rfl | hp
      · exact no32 h1
      · obtain ⟨q, hq, rfl⟩ := List.mem_map.mp hp
        obtain ⟨b1, b2⟩ := h2 q hq
        unfold wl
        simp only [List.mem_append, List.mem_cons, not_or]
        exact ⟨no32 b1, by decide, no32 b2⟩)
    rw [join_cons, List.map_map] at this
    exact this
  unfold parseL
  rw [e]
  simp only
  rw [dig_ts h1, linesL_wl h2]
  simp only
  rw [if_pos h]
/-! texts -/
def lineS (p : Int × Int) : Str := " " ++ ts p.1 ++ "-" ++ ts p.2
theorem cp_app (a b : Str) : cp (a ++ b) = cp a ++ cp b := _root_.TL.tl_append a b
theorem cp_lineS (p : Int × Int) : cp (lineS p) = 32 :: wl p := by
  unfold lineS wl
  rw [cp_app, cp_app, cp_app]
  show ([32] ++ cp (ts p.1)) ++ [45] ++ cp (ts p.2) = _
  simp
def wrtS (w : Wb) : Str := ts w.1 ++ Txt.join "" (w.2.map lineS)
theorem joinL_nil : ∀ ws : List (List Nat), _root_.TL.joinL [] ws = ws.flatten
  | [] => rfl
  | [p] => by simp [_root_.TL.joinL]
  | p :: q :: r => by
    show p ++ ([] ++ _root_.TL.joinL [] (q :: r)) = _
    rw [joinL_nil (q :: r)]
    simp
theorem cp_wrtS (w : Wb) : cp (wrtS w) = wrtL w := by
  unfold wrtS wrtL
  rw [cp_app, _root_.TL.join_eq]
  have := _root_.TL.tl_join ("" : Str) (w.2.map lineS)
  rw [show cp (Str.join "" (w.2.map lineS)) = _ from this]
  rw [show _root_.TL.tl ("" : Str) = [] from rfl, joinL_nil, List.map_map]
  congr 2
  exact List.map_congr_left fun p _ => cp_lineS p
/-- the law's own text -/
def addS (t : Str) (p : Int × Int) : Str := t ++ " " ++ ts p.1 ++ "-" ++ ts p.2
theorem cp_addS (t : Str) (p : Int × Int) : cp (addS t p) = cp t ++ 32 :: wl p := by
  unfold addS wl
  rw [cp_app, cp_app, cp_app, cp_app]
  show (cp t ++ [32] ++ cp (ts p.1)) ++ [45] ++ cp (ts p.2) = _
  simp
theorem cp_foldS : ∀ (ps : List (Int × Int)) (t : Str), cp (ps.foldl addS t) = cp t ++ (ps.map fun p => 32 :: wl p).flatten
  | [], t => by simp
  | p :: ps, t => by
    rw [List.foldl_cons, cp_foldS ps, cp_addS]
    simp
theorem foldS_eq (w : Wb) : w.2.foldl addS (ts w.1) = wrtS w := by
  refine _root_.TL.ext_tl ?_
  show cp _ = cp _
  rw [cp_foldS, cp_wrtS]
  rfl
theorem len_cp (a : Str) : a.length = (cp a).length := _root_.TL.len_tl a
theorem wl_len {p : Int × Int} (h : (0 ≤ p.1 ∧ p.1 ≤ 9) ∧ (0 ≤ p.2 ∧ p.2 ≤ 9)) : (wl p).length = 3 := by
  unfold wl
  rw [ts_dig h.1, ts_dig h.2]
  rfl
theorem flatT_len : ∀ {ps : List (Int × Int)}, (∀ p ∈ ps, (0 ≤ p.1 ∧ p.1 ≤ 9) ∧ (0 ≤ p.2 ∧ p.2 ≤ 9)) → ((ps.map fun p => 32 :: wl p).flatten).length = 4 * ps.length
  | [], _ => rfl
  | p :: ps, h => by
    have h1 := wl_len (h p List.mem_cons_self)
    have h2 := flatT_len (ps := ps) fun q hq => h q (List.mem_cons_of_mem _ hq)
    rw [List.map_cons, List.flatten_cons, List.length_append, h2, List.length_cons, h1, List.length_cons]
    omega
theorem wrt_len {w : Wb} (h : okW w = true) : (wrtS w).length = 1 + 4 * w.2.length := by
  obtain ⟨h1, h2⟩ := okW_dig h
  rw [len_cp, cp_wrtS]
  unfold wrtL
  rw [List.length_append, ts_dig h1, flatT_len h2]
  rfl
/-- parse_web of any datum -/
def parseR (xa : XA) : PyData → Res
  | .str a => match parseL (cp a) with
    | some w => .ok (eW w)
    | none => .ex (xa "InvalidText")
  | _ => .ex (xa "InvalidText")
theorem split_words (a : Str) : ∃ w0 ws, Txt.split a " " = w0 :: ws ∧ spW (cp a) = cp w0 :: ws.map cp ∧ (w0.length ≤ a.length ∧ ws.length ≤ a.length) ∧ ∀ w ∈ ws, w.length ≤ a.length := by
  have h := _root_.TL.split_spl a " " (by decide +kernel) (_root_.TL.kind_ok (by decide +kernel))
  have e32 : _root_.TL.tl (" " : Str) = [32] := by decide +kernel
  rw [e32] at h
  obtain ⟨w, ws, h1, h2⟩ := spW_eq (cp a)
  have h1' : _root_.TL.spl [32] 0 [] (_root_.TL.tl a) = w :: ws := h1
  rw [h1'] at h
  cases hs : Txt.split a " " with
  | nil => rw [hs] at h; cases h
  | cons v vs =>
    rw [hs, List.map_cons] at h
    injection h with ha hb
    subst ha hb
    obtain ⟨p1, p2⟩ := parts_len (vs.map _root_.TL.tl)
    have hl := congrArg List.length h2
    rw [List.length_append] at hl
    rw [List.length_map] at p1
    refine ⟨v, vs, rfl, h1, ?_, fun w hw => ?_⟩
    · rw [len_cp, len_cp]
      show (_root_.TL.tl v).length ≤ (cp a).length ∧ vs.length ≤ (cp a).length
      omega
    · have := p2 _ (List.mem_map_of_mem hw)
      rw [len_cp, len_cp]
      show (_root_.TL.tl w).length ≤ (cp a).length
      omega
theorem linesL_cons {w : List Nat} {ws : List (List Nat)} {ps : List (Int × Int)} (h : linesL (w :: ws) = some ps) : ∃ p qs, lineL w = some p ∧ linesL ws = some qs ∧ ps = p :: qs := by
  unfold linesL at h
  split at h
  · rename_i p qs h1 h2
    cases h
    exact ⟨p, qs, h1, h2, rfl⟩
  · cases h
theorem linesL_len : ∀ {ws : List (List Nat)} {ps : List (Int × Int)}, linesL ws = some ps → ps.length = ws.length
  | [], _, h => by cases h; rfl
  | w :: ws, ps, h => by
    obtain ⟨p, qs, _, h2, rfl⟩ := linesL_cons h
    rw [List.length_cons, List.length_cons, linesL_len h2]
theorem linesL_none : ∀ {ws : List Str}, linesL (ws.map cp) = none → ∃ pre b post ps, ws = pre ++ b :: post ∧ linesL (pre.map cp) = some ps ∧ lineL (cp b) = none
  | [], h => by cases h
  | w :: ws, h => by
    cases h1 : lineL (cp w) with
    | none => exact ⟨[], w, ws, [], rfl, rfl, h1⟩
    | some p =>
      have h2 : linesL (ws.map cp) = none := by
        cases h2 : linesL (ws.map cp) with
        | none => rfl
        | some qs =>
          have : linesL ((w :: ws).map cp) = some (p :: qs) := by
            show (match lineL (cp w), linesL (ws.map cp) with
              | some p, some ps => some (p :: ps)
              | _, _ => none) = _
            rw [h1, h2]
          rw [this] at h
          cases h
      obtain ⟨pre, b, post, ps, e, h3, h4⟩ := linesL_none h2
      refine ⟨w :: pre, b, post, p :: ps, by rw [e]; rfl, ?_, h4⟩
      show (match lineL (cp w), linesL (pre.map cp) with
        | some p, some ps => some (p :: ps)
        | _, _ => none) = _
      rw [h1, h3]
theorem cutD_tail (x : PyData) (xs : List PyData) : cutD (x :: xs) (some 1) none = xs := by
  unfold cutD
  have e1 : HT.sIx (x :: xs).length 0 (some 1) = 1 := by
    simp [HT.sIx]
  have e2 : HT.sIx (x :: xs).length (x :: xs).length none = xs.length + 1 := by
    simp [HT.sIx]
  rw [e1, e2]
  simp
theorem webB_okW (w : Wb) : webB (eW w) = okW w := by
  unfold webB
  rw [show asW (eW w) = some w from asW_eW w]
theorem small_ps {n : Int} {ps : List (Int × Int)} (h : ps.length ≤ 10000) : smallW (eW (n, ps)) := fun x es e => by
  cases e
  simpa using h
end U
namespace U
open PySem L2 DL
theorem cutS_len (z : Str) (lo hi : Option Int) : (cutS z lo hi).length ≤ z.length := by
  rw [len_cp, len_cp]
  show (((z.cps.toList.drop _).take _).length) ≤ z.cps.toList.length
  rw [List.length_take, List.length_drop]
  omega
def bents (t : Str) (k : Int) (s : Str) : List Str := [cutS t none (some k) ++ cutS t (some (k + 1)) none, cutS t none (some k) ++ s ++ cutS t (some k) none, t ++ s, cutS t none (some k)]
theorem bents_len {t s b : Str} {k : Int} (h : b ∈ bents t k s) : b.length ≤ 2 * t.length + s.length := by
  have h1 := cutS_len t none (some k)
  have h2 := cutS_len t (some (k + 1)) none
  have h3 := cutS_len t (some k) none
  unfold bents at h
  simp only [List.mem_cons, List.not_mem_nil, or_false] at h
  rcases h with rfl | rfl | rfl | rfl
  · rw [Str.length_append]; omega
  · rw [Str.length_append, Str.length_append]; omega
  · rw [Str.length_append]; omega
  · omega
theorem bents_at (t : Str) (k : Int) (s : Str) (n : Int) : ∃ b ∈ bents t k s, atI ((bents t k s).map PyData.str) (n % 4) = some (.str b) := by
  have : n % 4 = 0 ∨ n % 4 = 1 ∨ n % 4 = 2 ∨ n % 4 = 3 := by omega
  unfold bents
  rcases this with h | h | h | h <;> rw [h]
  · exact ⟨_, List.mem_cons_self, rfl⟩
  · exact ⟨_, List.mem_cons_of_mem _ List.mem_cons_self, rfl⟩
  · exact ⟨_, List.mem_cons_of_mem _ (List.mem_cons_of_mem _ List.mem_cons_self), rfl⟩
  · exact ⟨_, List.mem_cons_of_mem _ (List.mem_cons_of_mem _ (List.mem_cons_of_mem _ List.mem_cons_self)), rfl⟩
theorem sign_at {n : Int} (h : 0 ≤ n ∧ n < 7) : ∃ c, atI (" -01235" : Str).cps.toList n = some c := by
  have : n = 0 ∨ n = 1 ∨ n = 2 ∨ n = 3 ∨ n = 4 ∨ n = 5 ∨ n = 6 := by omega
  have e : (" -01235" : Str).cps.toList = [32, 45, 48, 49, 50, 51, 53] := by decide +kernel
  rw [e]
  rcases this with rfl | rfl | rfl | rfl | rfl | rfl | rfl <;> exact ⟨_, rfl⟩
theorem parse_back {b : Str} {w : Wb} (h : parseL (cp b) = some w) : okW w = true ∧ wrtS w = b := by
  obtain ⟨h1, h2⟩ := parseL_eq h
  exact ⟨h1, _root_.TL.ext_tl ((cp_wrtS w).trans h2)⟩
theorem parseR_wrt (xa : XA) {w : Wb} (h : okW w = true) : parseR xa (.str (wrtS w)) = .ok (eW w) := by
  unfold parseR
  simp only [cp_wrtS, parseL_wrt h]
def bads : List Str := ["", " ", "0", "7", "2 1-0", "2 0-2", "2  0-1", "2 0-1 ", "3 0-2 0-1", "3 0-1 0-1", "2 0:1"]
theorem bads_ok : ∀ b ∈ bads, parseL (cp b) = none ∧ b.length ≤ 5000 := by decide +kernel
end U
namespace U
open PySem L2 PyProof.Rows DL
open Evl (Ex)
open LamX (lamS_by)
section
variable {P : Program} {w : World} {K : PySem.W.Frag} {mg : Str → Option Value} {base : Heap} {xa : Str → Addr} {Cd cd Pd Pt : Addr}
abbrev s_digit : Stmt := topS 62
theorem sc_digit : FnScope ["text"] ["text"] (defScope s_digit) := ⟨rfl, rfl, rfl, by decide +kernel, rfl, by decide +kernel, by decide +kernel⟩
theorem bd_digit : BindsAs "digit" s_digit ["text"] := fun _ _ _ _ _ _ us hl => match us, hl with | [_], _ => rfl

def R_digit (xa : XA) : List PyData → Res → Prop := fun ds r => ∃ a : Str, ds = [.str a] ∧ a.length ≤ 10000 ∧ r = (match dig (cp a) with | some n => .ok (.int n) | none => .ex (xa "InvalidText"))
theorem ok_digit (F : Fn K mg "digit" s_digit) (B : Bt mg) (x_InvalidText : Xc K mg "InvalidText" (xa "InvalidText")) : Cal P w K mg base 1 "digit" ["text"] (spP (R_digit xa)) :=
  calP F sc_digit bd_digit (fun ds r ⟨_, e, _⟩ => by rw [e]; rfl) fun f cdv A outer s H E hr => by
  refine ⟨_, (pss_cons (ps_if (PW.pt (pw_or (pt_cmpR op_ne (pe_callB call_len_str (by rfl) B.len bb_len (pa_cons (pv 0) pa_nil)) pe_int (nomark _)) (pw_or1 (pt_cmpR op_notIn_sign (pv 0) pe_str (by rfl))))) (pss_one (ps_raiseC (E := E) x_InvalidText rfl (by rfl) (takesN rfl rfl rfl rfl))) pss_nil)
      (PSs.nox (pss_one (ps_ret (pe_callTy call_int_str (by rfl) B.int bb_int (pa_cons (pv 0) pa_nil)))))), fun ds r ⟨a, e1, hl, e2⟩ => ?_⟩
  subst e1 e2
  by_cases h1 : a.length = 1
  · obtain ⟨c, rfl⟩ : ∃ c : Nat, a = ⟨#[c]⟩ := by
      rw [len_cp] at h1
      match h : cp a, h1 with
      | [c], _ => exact ⟨c, _root_.TL.ext_tl h⟩
    have t := et_orF (T := []) (ET.is (et_test (ee_op (ee_cb (ea_1 (ee_var (ρ := slots 1 [PyData.str ⟨#[c]⟩]) (i := 0) rfl)) (rb_lenS (by omega))) (ee_int (i := 1)) re_neI)) (show (!decide ((((⟨#[c]⟩ : Str).length : Nat) : Int) = 1)) = false by rw [h1]; rfl)) (et_test (ee_op (ee_var (i := 0) rfl) (ee_str (i := "0123456789")) (re_niS (c := c))))
    have hm : (decide (c ∈ ("0123456789" : Str).cps.toList)) = decide (48 ≤ c ∧ c ≤ 57) := by
      have e : ("0123456789" : Str).cps.toList = [48, 49, 50, 51, 52, 53, 54, 55, 56, 57] := by decide +kernel
      rw [e]
      refine decide_eq_decide.mpr ?_
      simp only [List.mem_cons, List.not_mem_nil, or_false]
      omega
    rw [hm] at t
    by_cases h2 : 48 ≤ c ∧ c ≤ 57
    · rw [decide_eq_true h2] at t
      have hi : PySem.intText? ⟨#[c]⟩ = some ((c : Int) - 48) := by
        have : c = 48 ∨ c = 49 ∨ c = 50 ∨ c = 51 ∨ c = 52 ∨ c = 53 ∨ c = 54 ∨ c = 55 ∨ c = 56 ∨ c = 57 := by omega
        rcases this with rfl | rfl | rfl | rfl | rfl | rfl | rfl | rfl | rfl | rfl <;> decide +kernel
      have hd : dig (cp ⟨#[c]⟩) = some ((c : Int) - 48) := if_pos h2
      rw [hd]
      exact ⟨_, ss_seq (ss_if t (fun h => by cases h) (fun _ => ss_next)) (ss_ret (ee_cb (ea_1 (ee_var rfl)) (rb_intS (by rw [h1]; decide) hi))), rfl⟩
    · rw [decide_eq_false h2] at t
      have hd : dig (cp ⟨#[c]⟩) = none := if_neg h2
      rw [hd]
      exact ⟨_, ss_seqX (ss_if t (fun _ => ss_raiseC) (fun h => by cases h)), rfl⟩
  · have hd : dig (cp a) = none := by
      rw [len_cp] at h1
      unfold dig
      split
      · rename_i c hc
        rw [hc] at h1
        exact absurd rfl h1
      · rfl
    rw [hd]
    exact ⟨_, ss_seqX (ss_if (et_orT (ET.is (et_test (ee_op (ee_cb (ea_1 (ee_var rfl)) (rb_lenS (by omega))) ee_int re_neI)) (show (!decide ((a.length : Int) = 1)) = true by simp; omega))) (fun _ => ss_raiseC) (fun h => by cases h)), rfl⟩

end
end U
namespace U
open PySem L2 PyProof.Rows DL
open Evl (Ex)
open LamX (lamS_by)
section
variable {P : Program} {w : World} {K : PySem.W.Frag} {mg : Str → Option Value} {base : Heap} {xa : Str → Addr} {Cd cd Pd Pt : Addr}
abbrev s_line_of : Stmt := topS 63
theorem sc_line_of : FnScope ["word"] ["word"] (defScope s_line_of) := ⟨rfl, rfl, rfl, by decide +kernel, rfl, by decide +kernel, by decide +kernel⟩
theorem bd_line_of : BindsAs "line_of" s_line_of ["word"] := fun _ _ _ _ _ _ us hl => match us, hl with | [_], _ => rfl

def R_line_of (xa : XA) : List PyData → Res → Prop := fun ds r => ∃ a : Str, ds = [.str a] ∧ a.length ≤ 10000 ∧ r = (match lineL (cp a) with | some p => .ok (eP p) | none => .ex (xa "InvalidText"))
theorem ok_line_of (F : Fn K mg "line_of" s_line_of) (B : Bt mg) (x_InvalidText : Xc K mg "InvalidText" (xa "InvalidText")) (c_digit : Cal P w K mg base 1 "digit" ["text"] (spP (R_digit xa))) : Cal P w K mg base 2 "line_of" ["word"] (spP (R_line_of xa)) :=
  calP F sc_line_of bd_line_of (fun ds r ⟨_, e, _⟩ => by rw [e]; rfl) fun f cdv A outer s H E hr => by
  refine ⟨_, (pss_cons (ps_if (PW.pt (pw_or (pt_cmpR op_ne (pe_callB call_len_str (by rfl) B.len bb_len (pa_cons (pv 0) pa_nil)) pe_int (nomark _)) (pw_or1 (pt_cmpR op_ne (pe_ix ix_str (pv 0) pe_int (fun _ _ => rfl)) pe_str (nomark _))))) (pss_one (ps_raiseC (E := E) x_InvalidText rfl (by rfl) (takesN rfl rfl rfl rfl))) pss_nil)
      (pss_one (ps_ret (pe_tup (pa_cons (pe_calX (E := E) c_digit (hr.mono (by decide)) (by rfl) (takesN rfl rfl rfl rfl) (pa_cons (pe_ix ix_str (pv 0) pe_int (fun _ _ => rfl)) pa_nil)) (pa_cons (pe_calX (E := E) c_digit (hr.mono (by decide)) (by rfl) (takesN rfl rfl rfl rfl) (pa_cons (pe_ix ix_str (pv 0) pe_int (fun _ _ => rfl)) pa_nil)) pa_nil)))))), fun ds r ⟨a, e1, hl, e2⟩ => ?_⟩
  subst e1 e2
  by_cases h1 : a.length = 3
  · obtain ⟨x, y, z, ha⟩ : ∃ x y z : Nat, cp a = [x, y, z] := by
      rw [len_cp] at h1
      match h : cp a, h1 with
      | [x, y, z], _ => exact ⟨x, y, z, rfl⟩
    have t := et_orF (T := []) (ET.is (et_test (ee_op (ee_cb (ea_1 (ee_var (ρ := slots 1 [PyData.str a]) (i := 0) rfl)) (rb_lenS (by omega))) (ee_int (i := 3)) re_neI)) (show (!decide ((a.length : Int) = 3)) = false by rw [h1]; rfl)) (et_test (ee_op (ee_op (ee_var (i := 0) rfl) (ee_int (i := 1)) (re_ixS (c := y) (by omega) (by rw [show a.cps.toList = [x, y, z] from ha]; rfl))) (ee_str (i := "-")) re_neS))
    have hy : decide ((⟨#[y]⟩ : Str) = "-") = decide (y = 45) := decide_eq_decide.mpr ⟨fun h => by
      have := congrArg cp h
      have e : cp (⟨#[y]⟩ : Str) = [y] := rfl
      have e2 : cp ("-" : Str) = [45] := by decide +kernel
      rw [e, e2] at this
      simpa using this, fun h => by subst h; decide +kernel⟩
    rw [hy] at t
    by_cases hb : y = 45
    · rw [decide_eq_true hb] at t
      have first := ss_if (X := E) (o := .nx (slots 1 [PyData.str a])) (t := fun _ _ H => E (.ref (xa "InvalidText")) none H) (u := tNext) t (fun h => by cases h) (fun _ => ss_next)
      have a0 : EA [] _ (slots 1 [PyData.str a]) [PyData.str ⟨#[x]⟩] (slots 1 [PyData.str a]) := ea_1 (ee_op (ee_var (i := 0) rfl) (ee_int (i := 0)) (re_ixS (c := x) (by omega) (by rw [show a.cps.toList = [x, y, z] from ha]; rfl)))
      have a2 : EA [] _ (slots 1 [PyData.str a]) [PyData.str ⟨#[z]⟩] (slots 1 [PyData.str a]) := ea_1 (ee_op (ee_var (i := 0) rfl) (ee_int (i := 2)) (re_ixS (c := z) (by omega) (by rw [show a.cps.toList = [x, y, z] from ha]; rfl)))
      cases dx : dig [x] with
      | none =>
        have hd : lineL (cp a) = none := by
          rw [ha]
          unfold lineL
          simp only [hb, if_true, dx]
        rw [hd]
        exact ⟨_, ss_seq first (ss_retX (exr_tup1 (exr_call (R := R_digit xa) a0 ⟨⟨#[x]⟩, rfl, (show (1 : Nat) ≤ 10000 by decide), by rw [show cp (⟨#[x]⟩ : Str) = [x] from rfl, dx]⟩))), rfl⟩
      | some n =>
        have c0 := ee_call (E := E) (R := R_digit xa) (d := .int n) a0 ⟨⟨#[x]⟩, rfl, (show (1 : Nat) ≤ 10000 by decide), by rw [show cp (⟨#[x]⟩ : Str) = [x] from rfl, dx]⟩
        cases dz : dig [z] with
        | none =>
          have hd : lineL (cp a) = none := by
            rw [ha]
            unfold lineL
            simp only [hb, if_true, dx, dz]
          rw [hd]
          exact ⟨_, ss_seq first (ss_retX (exr_tup2 c0 (exr_call (R := R_digit xa) a2 ⟨⟨#[z]⟩, rfl, (show (1 : Nat) ≤ 10000 by decide), by rw [show cp (⟨#[z]⟩ : Str) = [z] from rfl, dz]⟩))), rfl⟩
        | some m =>
          have hd : lineL (cp a) = some (n, m) := by
            rw [ha]
            unfold lineL
            simp only [hb, if_true, dx, dz]
          rw [hd]
          exact ⟨_, ss_seq first (ss_ret (ee_tup (ea_2 c0 (ee_call (E := E) (R := R_digit xa) (d := .int m) a2 ⟨⟨#[z]⟩, rfl, (show (1 : Nat) ≤ 10000 by decide), by rw [show cp (⟨#[z]⟩ : Str) = [z] from rfl, dz]⟩)) (by simp))), rfl⟩
    · rw [decide_eq_false hb] at t
      have hd : lineL (cp a) = none := by
        rw [ha]
        unfold lineL
        simp only [hb, if_false]
      rw [hd]
      exact ⟨_, ss_seqX (ss_if t (fun _ => ss_raiseC) (fun h => by cases h)), rfl⟩
  · have hd : lineL (cp a) = none := by
      rw [len_cp] at h1
      unfold lineL
      split
      · rename_i hc
        rw [hc] at h1
        exact absurd rfl h1
      · rfl
    rw [hd]
    exact ⟨_, ss_seqX (ss_if (et_orT (ET.is (et_test (ee_op (ee_cb (ea_1 (ee_var rfl)) (rb_lenS (by omega))) ee_int re_neI)) (show (!decide ((a.length : Int) = 3)) = true by simp; omega))) (fun _ => ss_raiseC) (fun h => by cases h)), rfl⟩

end
end U
namespace U
open PySem L2 PyProof.Rows DL
open Evl (Ex)
open LamX (lamS_by)
section
variable {P : Program} {w : World} {K : PySem.W.Frag} {mg : Str → Option Value} {base : Heap} {xa : Str → Addr} {Cd cd Pd Pt : Addr}
abbrev s_parse_web : Stmt := topS 64
theorem sc_parse_web : FnScope ["text", "words", "web", "word"] ["text"] (defScope s_parse_web) := ⟨rfl, rfl, rfl, by decide +kernel, rfl, by decide +kernel, by decide +kernel⟩
theorem bd_parse_web : BindsAs "parse_web" s_parse_web ["text"] := fun _ _ _ _ _ _ us hl => match us, hl with | [_], _ => rfl

def R_parse_web (xa : XA) : List PyData → Res → Prop := fun ds r => ∃ d, ds = [d] ∧ (∀ a, d = .str a → a.length ≤ 5000) ∧ r = parseR xa d
theorem ok_parse_web (F : Fn K mg "parse_web" s_parse_web) (B : Bt mg) (x_InvalidText : Xc K mg "InvalidText" (xa "InvalidText")) (c_line_of : Cal P w K mg base 2 "line_of" ["word"] (spP (R_line_of xa))) (c_digit : Cal P w K mg base 1 "digit" ["text"] (spP (R_digit xa))) (c_is_web : Cal P w K mg base 3 "is_web" ["value"] (spP R_is_web)) : Cal P w K mg base 4 "parse_web" ["text"] (spP (R_parse_web xa)) :=
  calP F sc_parse_web bd_parse_web (fun ds r ⟨_, e, _⟩ => by rw [e]; rfl) fun f cdv A outer s H E hr => by
  refine ⟨_, (pss_cons (ps_if (pt_not (pt_val (pe_callB (isiK (K := K) rfl) (by rfl) B.isinstance bb_isinstance (pa_cons (pv 0) (pa_cons (pe_bltn (v := .ty "str") (by rfl) B.str bb_str rfl) pa_nil))))) (pss_one (ps_raiseC (E := E) x_InvalidText rfl (by rfl) (takesN rfl rfl rfl rfl))) pss_nil)
      (pss_cons (ps_set (i := 1) sc_parse_web.nd rfl (Or.inl rfl) (pe_split (pv 0) pe_str))
      (pss_cons (ps_set (i := 2) sc_parse_web.nd rfl (Or.inl rfl) (pe_tup (pa_cons (pe_calX (E := E) c_digit (hr.mono (by decide)) (by rfl) (takesN rfl rfl rfl rfl) (pa_cons (pe_ix (ixL (K := K) rfl) (pv 1) pe_int (fun _ _ => rfl)) pa_nil)) (pa_cons (pe_callTy (tupK (K := K) rfl) (by rfl) B.tuple bb_tuple (pa_cons (pe_lcX (E := E) (own := [("word", 3)]) (g := (gName 3)) (tt := tYes) rfl rfl (takesN rfl rfl rfl rfl) rfl sc_parse_web.nd (piL (K := K) rfl (pe_slice (slLK (K := K) rfl) (pv 1) (po_some pe_int) po_none)) (blkOk_by (own := [("word", 3)]) (N := ["text", "words", "web", "word"]) (sc := defScope s_parse_web) (by decide +kernel)) (fun _ _ _ _ _ => (pg_name (i := 3) sc_parse_web.nd rfl (Or.inl rfl))) (fun _ _ _ _ _ => pts_nil) (fun _ _ _ _ _ _ hx => (pe_calP (E := E) c_line_of (hr.mono (by decide)) (by rfl) hx (pa_cons (pv 3) pa_nil)))) pa_nil)) pa_nil))))
      (pss_cons (ps_if (pt_not (pt_val (pe_cal c_is_web (hr.mono (by decide)) (by rfl) (pa_cons (pv 2) pa_nil)))) (pss_one (ps_raiseC (E := E) x_InvalidText rfl (by rfl) (takesN rfl rfl rfl rfl))) pss_nil)
      (PSs.nox (pss_one (ps_ret (pv 2)))))))), fun ds r ⟨d, e1, hl, e2⟩ => ?_⟩
  subst e1 e2
  cases hs : isStr d with
  | false =>
    have hp : parseR xa d = .ex (xa "InvalidText") := by
      unfold parseR
      split
      · cases hs
      · rfl
    rw [hp]
    exact ⟨_, ss_seqX (ss_if (et_not (et_B (ee_is_bool (ee_isStr (ee_var rfl)) hs))) (fun _ => ss_raiseC) (fun h => by cases h)), rfl⟩
  | true =>
    obtain ⟨a, rfl⟩ : ∃ a, d = .str a := by cases d <;> first | exact ⟨_, rfl⟩ | cases hs
    have hl := hl a rfl
    have first := ss_if (T := []) (X := E) (o := .nx (slots 4 [PyData.str a])) (t := fun _ _ H => E (.ref (xa "InvalidText")) none H) (u := tNext) (et_not (et_B (ee_isStr (K := K) (d := .str a) (ee_var (ρ := slots 4 [PyData.str a]) (i := 0) rfl)))) (fun h => by cases h) (fun _ => ss_next)
    have second := ss_set (X := E) (i := 1) ((el_split (T := []) (ee_var (ρ := slots 4 [PyData.str a]) (i := 0) rfl) (ee_str (i := " ")) (by decide +kernel) (by omega)).ee)
    obtain ⟨w0, ws, e1, e2, e3, e4⟩ := split_words a
    rw [e1] at second
    have third : EE [] _ ((slots 4 [PyData.str a]).set 1 (.dat (.list ((w0 :: ws).map PyData.str)))) (.str w0) ((slots 4 [PyData.str a]).set 1 (.dat (.list ((w0 :: ws).map PyData.str)))) := ee_op (ee_var (i := 1) rfl) (ee_int (i := 0)) (re_ixL (K := K) (d := .str w0) (atI_zero _ _))
    have tail : EE [] _ ((slots 4 [PyData.str a]).set 1 (.dat (.list ((w0 :: ws).map PyData.str)))) (.list (ws.map PyData.str)) ((slots 4 [PyData.str a]).set 1 (.dat (.list ((w0 :: ws).map PyData.str)))) := ((el_sl (K := K) (ee_var (i := 1) rfl) (eo_some (ee_int (i := 1))) eo_none).is (cutD_tail _ _)).ee
    have lw : ∀ w ∈ ws, w.length ≤ 10000 := fun w hw => by have := e4 w hw; omega
    have turn : ∀ w ∈ ws, ∀ p, lineL (cp w) = some p → EE [] _ (((slots 4 [PyData.str a]).set 1 (.dat (.list ((w0 :: ws).map PyData.str)))).set 3 (.dat (.str w))) (eP p) (((slots 4 [PyData.str a]).set 1 (.dat (.list ((w0 :: ws).map PyData.str)))).set 3 (.dat (.str w))) := fun w hw p hp => ee_call (E := E) (R := R_line_of xa) (ea_1 (ee_var (i := 3) rfl)) ⟨w, rfl, lw w hw, by rw [hp]⟩
    have lcs : ∀ (vs : List Str) (ps : List (Int × Int)), (∀ w ∈ vs, w ∈ ws) → linesL (vs.map cp) = some ps → LcR (LcT [] (gName 3) tYes (tCall (spP (R_line_of xa)) [] E (tCons (tVar 3) tNil)) [3]) (vs.map PyData.str) ((slots 4 [PyData.str a]).set 1 (.dat (.list ((w0 :: ws).map PyData.str)))) (ps.map eP) ((slots 4 [PyData.str a]).set 1 (.dat (.list ((w0 :: ws).map PyData.str)))) := by
      intro vs
      induction vs with
      | nil => intro ps _ h; cases h; exact .nil
      | cons v vs ih =>
        intro ps hv h
        obtain ⟨p, qs, h1, h2, rfl⟩ := linesL_cons h
        exact .cons (es := [eP p]) (lc1m (by intro _ _ h; cases h) (turn v (hv v List.mem_cons_self) p h1)) (ih qs (fun w hw => hv w (List.mem_cons_of_mem _ hw)) h2)
    cases hd : dig (cp w0) with
    | none =>
      have hp : parseR xa (.str a) = .ex (xa "InvalidText") := by
        unfold parseR parseL
        simp only [e2, hd]
      rw [hp]
      exact ⟨_, ss_seq first (ss_seq second (ss_seqX (ss_setX (exr_tup1 (exr_call (R := R_digit xa) (ea_1 third) ⟨w0, rfl, by omega, by rw [hd]⟩))))), rfl⟩
    | some n =>
      have c0 := ee_call (E := E) (R := R_digit xa) (d := .int n) (ea_1 third) ⟨w0, rfl, by omega, by rw [hd]⟩
      cases hls : linesL (ws.map cp) with
      | none =>
        have hp : parseR xa (.str a) = .ex (xa "InvalidText") := by
          unfold parseR parseL
          simp only [e2, hd, hls]
        rw [hp]
        obtain ⟨pre, b, post, ps, rfl, h1, h2⟩ := linesL_none hls
        have hlp := linesL_len h1
        simp only [List.length_append, List.length_cons] at e3
        rw [List.map_append, List.map_cons] at tail
        exact ⟨_, ss_seq first (ss_seq second (ss_seqX (ss_setX (exr_tup2 c0 (exr_cb1 (exr_lcL (K := K) tail (lcs pre ps (fun w hw => List.mem_append_left _ hw) h1) (by rw [List.length_map, hlp, List.length_map]; omega) (exr_call (R := R_line_of xa) (ea_1 (ee_var rfl)) ⟨b, rfl, lw b (by simp), by rw [h2]⟩))))))), rfl⟩
      | some ps =>
        have hlp := linesL_len hls
        rw [List.length_map] at hlp
        have fourth := ss_set (X := E) (i := 2) (ee_tup (ea_2 c0 (ee_cb (r := rTupOf K) (ea_1 (el_lcLp (K := K) tail (lcs ws ps (fun _ h => h) hls) (by rw [List.length_map]; omega)).ee) rb_tupL)) (by simp))
        have t := et_not (et_B (ee_call (T := []) (E := E0) (R := R_is_web) (ea_1 (ee_var (ρ := ((slots 4 [PyData.str a]).set 1 (.dat (.list ((w0 :: ws).map PyData.str)))).set 2 (.dat (eW (n, ps)))) (i := 2) rfl)) ⟨eW (n, ps), rfl, small_ps (by omega), rfl⟩))
        rw [webB_okW] at t
        cases hok : okW (n, ps) with
        | false =>
          have hp : parseR xa (.str a) = .ex (xa "InvalidText") := by
            unfold parseR parseL
            simp only [e2, hd, hls, hok, Bool.false_eq_true, if_false]
          rw [hp]
          rw [hok] at t
          exact ⟨_, ss_seq first (ss_seq second (ss_seq fourth (ss_seqX (ss_if t (fun _ => ss_raiseC) (fun h => by cases h))))), rfl⟩
        | true =>
          have hp : parseR xa (.str a) = .ok (eW (n, ps)) := by
            unfold parseR parseL
            simp only [e2, hd, hls, hok, if_true]
          rw [hp]
          rw [hok] at t
          exact ⟨_, ss_seq first (ss_seq second (ss_seq fourth (ss_seq (ss_if t (fun h => by cases h) (fun _ => ss_next)) (ss_ret (ee_var rfl))))), rfl⟩

end
end U
namespace U
open PySem L2 PyProof.Rows DL
open Evl (Ex)
open LamX (lamS_by)
section
variable {P : Program} {w : World} {K : PySem.W.Frag} {mg : Str → Option Value} {base : Heap} {xa : Str → Addr} {Cd cd Pd Pt : Addr}
abbrev s_numbers_of_lines : Stmt := topS 27
theorem sc_numbers_of_lines : FnScope ["web", "numbering", "first", "last"] ["web", "numbering"] (defScope s_numbers_of_lines) := ⟨rfl, rfl, rfl, by decide +kernel, rfl, by decide +kernel, by decide +kernel⟩
theorem bd_numbers_of_lines : BindsAs "numbers_of_lines" s_numbers_of_lines ["web", "numbering"] := fun _ _ _ _ _ _ us hl => match us, hl with | [_, _], _ => rfl

def R_numbers_of_lines : List PyData → Res → Prop := fun ds r => ∃ (v : Wb) (ns : List Int), ds = [eW v, eT ns] ∧ small v ∧ EndsW v ns.length ∧ r = .ok (eT (linesN v ns))
theorem ok_numbers_of_lines (F : Fn K mg "numbers_of_lines" s_numbers_of_lines) (B : Bt mg) : Cal P w K mg base 1 "numbers_of_lines" ["web", "numbering"] (spP R_numbers_of_lines) :=
  calQ F sc_numbers_of_lines bd_numbers_of_lines (fun ds r ⟨_, _, e, _⟩ => by rw [e]; rfl) fun f cdv A outer s H E hr => by
  refine ⟨_, (pss_one (ps_ret (pe_callTy (tupK (K := K) rfl) (by rfl) B.tuple bb_tuple (pa_cons (pe_lc (own := [("first", 2), ("last", 3)]) (g := (gTup K 2 (gCons (gName 2) (gCons (gName 3) gNil)))) (tt := tYes) rfl sc_numbers_of_lines.nd (piT (K := K) rfl (pe_ix (ixT (K := K) rfl) (pv 0) pe_int (fun _ _ => rfl))) (blkOk_by (own := [("first", 2), ("last", 3)]) (N := ["web", "numbering", "first", "last"]) (sc := defScope s_numbers_of_lines) (by decide +kernel)) (fun _ _ _ _ _ => (pgT (K := K) rfl rfl (pgs_cons (pg_name (i := 2) sc_numbers_of_lines.nd rfl (Or.inl rfl)) (pgs_cons (pg_name (i := 3) sc_numbers_of_lines.nd rfl (Or.inl rfl)) pgs_nil)))) (fun _ _ _ _ _ => pts_nil) (fun _ _ _ _ _ => (pe_callB call_abs (by rfl) B.abs bb_abs (pa_cons (pe_op op_sub (pe_ix (ixT (K := K) rfl) (pv 1) (pv 2) (fun _ _ => rfl)) (pe_ix (ixT (K := K) rfl) (pv 1) (pv 3) (fun _ _ => rfl))) pa_nil)))) pa_nil)))), fun ds r ⟨v, ns, e1, hsm, he, e2⟩ => ?_⟩
  subst e1 e2
  refine ⟨_, ss_ret (ee_cb (ea_1 (el_lcT (ee_op (ee_var rfl) ee_int (re_ixT (d := ePs v.2) rfl)) (lcr_ints eP (fun p => iabs (at0 ns p.1 - at0 ns p.2)) v.2 fun p hp => lc2m (by decide) (by intro _ _ h; cases h) (by intro _ _ h; cases h)
    (ee_cb (ea_1 (ee_op (ee_op (ee_var rfl) (ee_var rfl) (re_ixT (at0_ok (he p hp).1.1 (he p hp).1.2))) (ee_op (ee_var rfl) (ee_var rfl) (re_ixT (at0_ok (he p hp).2.1 (he p hp).2.2))) re_sub)) rb_abs)) (by simp; exact Nat.le_trans hsm (by decide))).ee) rb_tupL), rfl⟩

end
end U
namespace U
open PySem L2 PyProof.Rows DL
open Evl (Ex)
open LamX (lamS_by)
section
variable {P : Program} {w : World} {K : PySem.W.Frag} {mg : Str → Option Value} {base : Heap} {xa : Str → Addr} {Cd cd Pd Pt : Addr}
abbrev s_all_differ : Stmt := topS 29
theorem sc_all_differ : FnScope ["web", "numbering"] ["web", "numbering"] (defScope s_all_differ) := ⟨rfl, rfl, rfl, by decide +kernel, rfl, by decide +kernel, by decide +kernel⟩
theorem bd_all_differ : BindsAs "all_differ" s_all_differ ["web", "numbering"] := fun _ _ _ _ _ _ us hl => match us, hl with | [_, _], _ => rfl

def R_all_differ : List PyData → Res → Prop := fun ds r => ∃ (v : Wb) (ns : List Int), ds = [eW v, eT ns] ∧ v.2.length ≤ 1000 ∧ EndsW v ns.length ∧ r = .ok (.bool (differN v ns))
theorem ok_all_differ (F : Fn K mg "all_differ" s_all_differ) (B : Bt mg) (c_numbers_of_lines : Cal P w K mg base 1 "numbers_of_lines" ["web", "numbering"] (spP R_numbers_of_lines)) : Cal P w K mg base 2 "all_differ" ["web", "numbering"] (spP R_all_differ) :=
  calQ F sc_all_differ bd_all_differ (fun ds r ⟨_, _, e, _⟩ => by rw [e]; rfl) fun f cdv A outer s H E hr => by
  refine ⟨_, (pss_one (ps_ret (pe_cmpR op_eq (pe_callB cr_lenS (by rfl) B.len bb_len (pa_cons (pe_callTy (setK (K := K) rfl rfl) (by rfl) B.set bb_set (pa_cons (pe_cal c_numbers_of_lines (hr.mono (by decide)) (by rfl) (pa_cons (pv 0) (pa_cons (pv 1) pa_nil))) pa_nil)) pa_nil)) (pe_callB (lenK (K := K) rfl) (by rfl) B.len bb_len (pa_cons (pe_ix (ixT (K := K) rfl) (pv 0) pe_int (fun _ _ => rfl)) pa_nil)) (nomark _)))), fun ds r ⟨v, ns, e1, hsm, he, e2⟩ => ?_⟩
  subst e1 e2
  refine ⟨_, ss_ret (ee_op (ee_lenSetT (ns := linesN v ns) (ee_call (ea_2 (ee_var rfl) (ee_var rfl)) ⟨v, ns, rfl, Nat.le_trans hsm (by decide), he, rfl⟩) (by unfold linesN; rw [List.length_map]; omega)) (ee_cb (ea_1 (ee_op (ee_var rfl) ee_int (re_ixT (d := ePs v.2) rfl))) rb_lenT) re_eqI), ?_⟩
  show PyData.bool _ = PyData.bool _
  rw [List.length_map]
  unfold differN
  congr 1
  simp only [decide_eq_decide]
  omega

end
end U
namespace U
open PySem L2 PyProof.Rows DL
open Evl (Ex)
open LamX (lamS_by)
section
variable {P : Program} {w : World} {K : PySem.W.Frag} {mg : Str → Option Value} {base : Heap} {xa : Str → Addr} {Cd cd Pd Pt : Addr}
abbrev s_need_good : Stmt := topS 30
theorem sc_need_good : FnScope ["web", "numbering"] ["web", "numbering"] (defScope s_need_good) := ⟨rfl, rfl, rfl, by decide +kernel, rfl, by decide +kernel, by decide +kernel⟩
theorem bd_need_good : BindsAs "need_good" s_need_good ["web", "numbering"] := fun _ _ _ _ _ _ us hl => match us, hl with | [_, _], _ => rfl

def R_need_good (xa : XA) : List PyData → Res → Prop := fun ds r => ∃ (v : Wb) (ns : List Int), ds = [eW v, eT ns] ∧ v.2.length ≤ 1000 ∧ EndsW v ns.length ∧ r = (if differN v ns = true then .ok .none else .ex (xa "NotGood"))
theorem ok_need_good (F : Fn K mg "need_good" s_need_good) (B : Bt mg) (x_NotGood : Xc K mg "NotGood" (xa "NotGood")) (c_all_differ : Cal P w K mg base 2 "all_differ" ["web", "numbering"] (spP R_all_differ)) : Cal P w K mg base 3 "need_good" ["web", "numbering"] (spP (R_need_good xa)) :=
  calP F sc_need_good bd_need_good (fun ds r ⟨_, _, e, _⟩ => by rw [e]; rfl) fun f cdv A outer s H E hr => by
  refine ⟨_, (pss_one (ps_if (pt_not (pt_val (pe_cal c_all_differ (hr.mono (by decide)) (by rfl) (pa_cons (pv 0) (pa_cons (pv 1) pa_nil))))) (pss_one (ps_raiseC (E := E) x_NotGood rfl (by rfl) (takesN rfl rfl rfl rfl))) pss_nil)), fun ds r ⟨v, ns, e1, hl, he, e2⟩ => ?_⟩
  subst e1 e2
  have t := et_not (et_B (ee_call (T := []) (E := E0) (R := R_all_differ) (ea_2 (ee_var (ρ := slots 2 [eW v, eT ns]) (i := 0) rfl) (ee_var (i := 1) rfl)) ⟨v, ns, rfl, hl, he, rfl⟩))
  cases h : differN v ns with
  | true =>
    rw [h] at t
    exact ⟨_, ss_if t (fun h => by cases h) (fun _ => ss_next), rfl⟩
  | false =>
    rw [h] at t
    exact ⟨_, ss_if t (fun _ => ss_raiseC) (fun h => by cases h), rfl⟩

end
end U
namespace U
open PySem L2 PyProof.Rows DL
open Evl (Ex)
open LamX (lamS_by)
section
variable {P : Program} {w : World} {K : PySem.W.Frag} {mg : Str → Option Value} {base : Heap} {xa : Str → Addr} {Cd cd Pd Pt : Addr}
abbrev s_copy_at : Stmt := topS 34
theorem sc_copy_at : FnScope ["web", "numbering", "turn"] ["web", "numbering", "turn"] (defScope s_copy_at) := ⟨rfl, rfl, rfl, by decide +kernel, rfl, by decide +kernel, by decide +kernel⟩
theorem bd_copy_at : BindsAs "copy_at" s_copy_at ["web", "numbering", "turn"] := fun _ _ _ _ _ _ us hl => match us, hl with | [_, _, _], _ => rfl

def R_copy_at (xa : XA) : List PyData → Res → Prop := fun ds r => ∃ (v : Wb) (ns : List Int) (t : PyData), ds = [eW v, eT ns, t] ∧ smallW (eW v) ∧ v.2.length ≤ 1000 ∧ EndsW v ns.length ∧ needNum xa (eW v) (eT ns) = .ok .none ∧ wholeB t 0 (2 * topW v) = true ∧ differN v ns = false ∧ r = .ex (xa "NotGood")
theorem ok_copy_at (F : Fn K mg "copy_at" s_copy_at) (B : Bt mg) (x_InvalidNumber : Xc K mg "InvalidNumber" (xa "InvalidNumber")) (c_need_numbering : Cal P w K mg base 5 "need_numbering" ["web", "numbering"] (spP (R_need_numbering xa))) (c_is_whole : Cal P w K mg base 1 "is_whole" ["value", "low", "high"] (spP R_is_whole)) (c_top_of : Cal P w K mg base 1 "top_of" ["web"] (spP R_top_of)) (c_need_good : Cal P w K mg base 3 "need_good" ["web", "numbering"] (spP (R_need_good xa))) : Cal P w K mg base 6 "copy_at" ["web", "numbering", "turn"] (spP (R_copy_at xa)) :=
  calP F sc_copy_at bd_copy_at (fun ds r ⟨_, _, _, e, _⟩ => by rw [e]; rfl) fun f cdv A outer s H E hr => by
  refine ⟨_, (pss_cons (ps_expr (pe_calX (E := E) c_need_numbering (hr.mono (by decide)) (by rfl) (takesN rfl rfl rfl rfl) (pa_cons (pv 0) (pa_cons (pv 1) pa_nil))))
      (pss_cons (ps_if (pt_not (pt_val (pe_cal c_is_whole (hr.mono (by decide)) (by rfl) (pa_cons (pv 2) (pa_cons pe_int (pa_cons (pe_op op_mul pe_int (pe_cal c_top_of (hr.mono (by decide)) (by rfl) (pa_cons (pv 0) pa_nil))) pa_nil)))))) (pss_one (ps_raiseC (E := E) x_InvalidNumber rfl (by rfl) (takesN rfl rfl rfl rfl))) pss_nil)
      (pss_cons (ps_expr (pe_calX (E := E) c_need_good (hr.mono (by decide)) (by rfl) (takesN rfl rfl rfl rfl) (pa_cons (pv 0) (pa_cons (pv 1) pa_nil))))
      pss_void))), fun ds r ⟨v, ns, t, e1, hsm, hl, ends, hn, ht, hd, e2⟩ => ?_⟩
  subst e1 e2
  exact ⟨_, ss_seq (ss_drop (ee_call (E := E) (R := R_need_numbering xa) (ea_2 (ee_var rfl) (ee_var rfl)) ⟨eW v, eT ns, rfl, hsm, hn.symm⟩)) (ss_seq (ss_if (ET.is (et_not (et_B (ee_call (E := E0) (R := R_is_whole) (ea_3 (ee_var rfl) (ee_int (i := 0)) (ee_op (ee_int (i := 2)) (ee_call (E := E0) (R := R_top_of) (ea_1 (ee_var rfl)) ⟨v, rfl, rfl⟩) (re_mulL (by decide)))) ⟨t, 0, 2 * topW v, rfl, rfl⟩))) (show _ = false by rw [ht]; rfl)) (fun h => by cases h) (fun _ => ss_next)) (ss_seqX (ss_callX (R := R_need_good xa) (ea_2 (ee_var rfl) (ee_var rfl)) ⟨v, ns, rfl, hl, ends, by rw [hd]; rfl⟩))), rfl⟩

end
end U
/-! SumT: numberings by sums. -/
namespace U
open PySem L2 DL
def sumL (w : Wb) (b : List Int) (q : Int × Int) : Int := (at0 b q.1 + at0 b q.2) % topW w
def sumsN (w : Wb) (b : List Int) : List Int := w.2.map (sumL w b)
def sumsU (w : Wb) (b : List Int) : List Int := (w.2.filter fun q => decide (q.2 < (b.length : Int))).map (sumL w b)
def sdiffN (w : Wb) (b : List Int) : Bool := decide (dcount (sumsN w b) = w.2.length)
def okS (w : Wb) (b : List Int) (k : Int) : Bool := !b.contains k && decide (dcount (sumsU w (b ++ [k])) = (sumsU w (b ++ [k])).length)
def contN (w : Wb) : Nat → List Int → Option (List Int)
  | 0, b => if b.length = w.1.toNat then some b else none
  | d + 1, b => if b.length = w.1.toNat then some b else (ri 0 (topW w).toNat).findSome? fun k => if okS w b k = true then contN w d (b ++ [k]) else none
def firstS (w : Wb) : Option (List Int) := contN w w.1.toNat []
theorem sdiff_iff (w : Wb) (b : List Int) : sdiffN w b = true ↔ (sumsN w b).Nodup := by
  unfold sdiffN
  rw [decide_eq_true_eq, ← dcount_full]
  have : (sumsN w b).length = w.2.length := by unfold sumsN; rw [List.length_map]
  rw [this]
structure ValS (w : Wb) (c : List Int) : Prop where
  fit : FitsN w (topW w - 1) c
  ln : (sumsN w c).Nodup
structure PVS (w : Wb) (b : List Int) : Prop where
  rg : ∀ n ∈ b, 0 ≤ n ∧ n ≤ topW w - 1
  nd : b.Nodup
  ln : (sumsU w b).Nodup
theorem sumL_app {w : Wb} (g : GoodW w) {s b : List Int} {q : Int × Int} (hq : q ∈ w.2) (h : q.2 < (s.length : Int)) : sumL w (s ++ b) q = sumL w s q := by
  have := g.line q hq
  unfold sumL
  rw [at0_app (by omega) (by omega), at0_app (by omega) (by omega)]
theorem sumsU_sub {w : Wb} (g : GoodW w) (s b : List Int) : (sumsU w s).Sublist (sumsU w (s ++ b)) := by
  have e : sumsU w s = (((w.2.filter fun q => decide (q.2 < ((s ++ b).length : Int))).filter fun q => decide (q.2 < (s.length : Int))).map (sumL w (s ++ b))) := by
    unfold sumsU
    rw [List.filter_filter]
    have hf : (w.2.filter fun q => decide (q.2 < (s.length : Int)) && decide (q.2 < ((s ++ b).length : Int))) = w.2.filter fun q => decide (q.2 < (s.length : Int)) := by
      refine List.filter_congr fun q _ => ?_
      rw [List.length_append]
      by_cases z : q.2 < (s.length : Int)
      · rw [decide_eq_true z, decide_eq_true (show q.2 < ((s.length + b.length : Nat) : Int) by omega)]; rfl
      · rw [decide_eq_false z]; rfl
    rw [hf]
    refine List.map_congr_left fun q hq => ?_
    obtain ⟨h1, h2⟩ := List.mem_filter.mp hq
    exact (sumL_app g h1 (of_decide_eq_true h2)).symm
  rw [e]
  exact List.filter_sublist.map _
theorem PVS.take {w : Wb} (g : GoodW w) {s b : List Int} (h : PVS w (s ++ b)) : PVS w s :=
  ⟨fun n hn => h.rg n (List.mem_append_left _ hn), (List.nodup_append.mp h.nd).1, h.ln.sublist (sumsU_sub g s b)⟩
theorem okS_iff {w : Wb} {s : List Int} {n : Int} : okS w s n = true ↔ n ∉ s ∧ (sumsU w (s ++ [n])).Nodup := by
  unfold okS
  rw [Bool.and_eq_true, decide_eq_true_eq, dcount_full]
  simp
theorem pvs_snoc {w : Wb} (g : GoodW w) {s : List Int} {n : Int} : PVS w (s ++ [n]) ↔ PVS w s ∧ 0 ≤ n ∧ n ≤ topW w - 1 ∧ okS w s n = true := by
  constructor
  · intro h
    have r := h.rg n (by simp)
    have nd := List.nodup_append.mp h.nd
    exact ⟨h.take g, r.1, r.2, okS_iff.mpr ⟨fun hn => nd.2.2 n hn n (by simp) rfl, h.ln⟩⟩
  · rintro ⟨h, h0, h1, h2⟩
    obtain ⟨h3, h4⟩ := okS_iff.mp h2
    refine ⟨fun m hm => ?_, ?_, h4⟩
    · rcases List.mem_append.mp hm with z | z
      · exact h.rg m z
      · simp at z; subst z; exact ⟨h0, h1⟩
    · rw [List.nodup_append]
      refine ⟨h.nd, by simp, fun a ha b hb => ?_⟩
      simp at hb
      subst hb
      exact fun z => h3 (z ▸ ha)
theorem pvs_val {w : Wb} (g : GoodW w) {c : List Int} (hc : (c.length : Int) = w.1) : PVS w c ↔ ValS w c := by
  have e : sumsU w c = sumsN w c := by
    unfold sumsU sumsN
    rw [List.filter_eq_self.mpr]
    intro q hq
    have := g.line q hq
    exact decide_eq_true (by omega)
  constructor
  · intro h
    exact ⟨⟨hc, h.rg, h.nd⟩, by rw [← e]; exact h.ln⟩
  · intro h
    exact ⟨h.fit.rg, h.fit.nd, by rw [e]; exact h.ln⟩
def treeS (w : Wb) : Nat → List Int → List (List Int)
  | 0, b => if b.length = w.1.toNat then [b] else []
  | d + 1, b => if b.length = w.1.toNat then [b] else (ri 0 (topW w).toNat).flatMap fun k => if okS w b k = true then treeS w d (b ++ [k]) else []
theorem cont_head (w : Wb) : ∀ (d : Nat) (b : List Int), contN w d b = (treeS w d b).head?
  | 0, b => by unfold contN treeS; split <;> rfl
  | d + 1, b => by
    unfold contN treeS
    split
    · rfl
    · rw [List.head?_flatMap]
      congr 1
      funext k
      split
      · exact cont_head w d _
      · rfl
theorem treeS_pre (w : Wb) : ∀ (d : Nat) (b c : List Int), c ∈ treeS w d b → ∃ r, c = b ++ r
  | 0, b, c, h => by
    unfold treeS at h
    split at h
    · exact ⟨[], by simpa using h⟩
    · cases h
  | d + 1, b, c, h => by
    unfold treeS at h
    split at h
    · exact ⟨[], by simpa using h⟩
    · obtain ⟨k, hk, hc⟩ := List.mem_flatMap.mp h
      split at hc
      · obtain ⟨r, rfl⟩ := treeS_pre w d _ c hc
        exact ⟨k :: r, by simp⟩
      · cases hc
theorem treeS_sorted (w : Wb) : ∀ (d : Nat) (b : List Int), (treeS w d b).Pairwise Lx
  | 0, b => by
    unfold treeS
    split
    · exact List.pairwise_singleton _ _
    · exact List.Pairwise.nil
  | d + 1, b => by
    unfold treeS
    split
    · exact List.pairwise_singleton _ _
    · rw [List.flatMap_def, List.pairwise_flatten]
      refine ⟨fun l hl => ?_, ?_⟩
      · obtain ⟨k, _, rfl⟩ := List.mem_map.mp hl
        split
        · exact treeS_sorted w d _
        · exact List.Pairwise.nil
      · rw [List.pairwise_map]
        refine (ri_sorted _ _).imp fun {m n} h x hx y hy => ?_
        split at hx
        · split at hy
          · obtain ⟨r, rfl⟩ := treeS_pre w d _ x hx
            obtain ⟨s, rfl⟩ := treeS_pre w d _ y hy
            simp only [List.append_assoc, List.singleton_append]
            exact lx_lt b r s h
          · cases hy
        · cases hx
theorem treeS_mem {w : Wb} (g : GoodW w) : ∀ (d : Nat) (b : List Int), b.length + d = w.1.toNat → PVS w b → ∀ c, c ∈ treeS w d b ↔ (∃ r, c = b ++ r) ∧ ValS w c
  | 0, b, hd, pv, c => by
    have lo := g.lo
    have hl : b.length = w.1.toNat := by omega
    unfold treeS
    rw [if_pos hl, List.mem_singleton]
    constructor
    · rintro rfl
      exact ⟨⟨[], by simp⟩, (pvs_val g (by omega)).mp pv⟩
    · rintro ⟨⟨r, rfl⟩, v⟩
      have := v.fit.len
      rw [List.length_append] at this
      have hr : r = [] := List.eq_nil_of_length_eq_zero (by omega)
      rw [hr, List.append_nil]
  | d + 1, b, hd, pv, c => by
    have lo := g.lo
    unfold treeS
    rw [if_neg (by omega), List.mem_flatMap]
    constructor
    · rintro ⟨k, hk, hc⟩
      have hk := mem_ri.mp hk
      split at hc
      · rename_i hok
        have pv' := (pvs_snoc g (s := b) (n := k)).mpr ⟨pv, by omega, by omega, hok⟩
        obtain ⟨⟨r, rfl⟩, v⟩ := (treeS_mem g d (b ++ [k]) (by simp; omega) pv' c).mp hc
        exact ⟨⟨k :: r, by simp⟩, v⟩
      · cases hc
    · rintro ⟨⟨r, rfl⟩, v⟩
      cases r with
      | nil =>
        have := v.fit.len
        simp at this
        omega
      | cons k r =>
        have pvc : PVS w ((b ++ [k]) ++ r) := by
          have := (pvs_val g v.fit.len).mpr v
          simpa using this
        have pv' := pvc.take g
        obtain ⟨_, h0, h1, h2⟩ := (pvs_snoc g).mp pv'
        refine ⟨k, mem_ri.mpr (by omega), ?_⟩
        rw [if_pos h2]
        exact (treeS_mem g d (b ++ [k]) (by simp; omega) pv' _).mpr ⟨⟨r, by simp⟩, v⟩
/-! ### all of the law -/
def extP (m : Int) (s : List Int) : List (List Int) := ((ri 0 m.toNat).filter fun n => !s.contains n).map fun n => s ++ [n]
def permStep (m : Int) (f : List (List Int)) : List (List Int) := f.foldl (fun l s => l ++ extP m s) []
def permN (m : Int) (ps : List Int) : List (List Int) := ps.foldl (fun f _ => permStep m f) [[]]
def allS (w : Wb) : List (List Int) := (permN (topW w) (ri 0 w.1.toNat)).filter (sdiffN w)
theorem permStep_flat (m : Int) (f : List (List Int)) : permStep m f = f.flatMap (extP m) := by
  unfold permStep
  rw [fold_app_eq, List.nil_append]
theorem mem_extP {m : Int} {s t : List Int} : t ∈ extP m s ↔ ∃ n, t = s ++ [n] ∧ 0 ≤ n ∧ n ≤ m - 1 ∧ n ∉ s := by
  unfold extP
  rw [List.mem_map]
  constructor
  · rintro ⟨n, hn, rfl⟩
    obtain ⟨h1, h2⟩ := List.mem_filter.mp hn
    have := mem_ri.mp h1
    exact ⟨n, rfl, by omega, by omega, by simpa using h2⟩
  · rintro ⟨n, rfl, h0, h1, h2⟩
    exact ⟨n, List.mem_filter.mpr ⟨mem_ri.mpr (by omega), by simpa using h2⟩, rfl⟩
theorem permN_spec (m : Int) : ∀ ps : List Int, (∀ c, c ∈ permN m ps ↔ c.length = ps.length ∧ (∀ n ∈ c, 0 ≤ n ∧ n ≤ m - 1) ∧ c.Nodup) ∧ (permN m ps).Pairwise Lx := by
  have key : ∀ (ps : List Int) (k : Nat) (f : List (List Int)), (∀ c, c ∈ f ↔ c.length = k ∧ (∀ n ∈ c, 0 ≤ n ∧ n ≤ m - 1) ∧ c.Nodup) → f.Pairwise Lx →
      (∀ c, c ∈ ps.foldl (fun f _ => permStep m f) f ↔ c.length = k + ps.length ∧ (∀ n ∈ c, 0 ≤ n ∧ n ≤ m - 1) ∧ c.Nodup) ∧ (ps.foldl (fun f _ => permStep m f) f).Pairwise Lx := by
    intro ps
    induction ps with
    | nil => exact fun k f h s => ⟨by simpa using h, s⟩
    | cons p ps ih =>
      intro k f h s
      rw [List.foldl_cons]
      have := ih (k + 1) (permStep m f) (fun c => ?_) ?_
      · rw [List.length_cons, show k + (ps.length + 1) = k + 1 + ps.length by omega]; exact this
      · rw [permStep_flat, List.mem_flatMap]
        constructor
        · rintro ⟨t, ht, hc⟩
          obtain ⟨n, rfl, h0, h1, h2⟩ := mem_extP.mp hc
          obtain ⟨a1, a2, a3⟩ := (h t).mp ht
          refine ⟨by simp [a1], fun x hx => ?_, ?_⟩
          · rcases List.mem_append.mp hx with z | z
            · exact a2 x z
            · simp at z; subst z; exact ⟨h0, h1⟩
          · rw [List.nodup_append]
            refine ⟨a3, by simp, fun a ha b hb => ?_⟩
            simp at hb; subst hb
            exact fun z => h2 (z ▸ ha)
        · rintro ⟨a1, a2, a3⟩
          obtain ⟨t, n, rfl, hl⟩ := snoc_of a1
          have nd := List.nodup_append.mp a3
          have r := a2 n (by simp)
          exact ⟨t, (h t).mpr ⟨hl, fun x hx => a2 x (List.mem_append_left _ hx), nd.1⟩, mem_extP.mpr ⟨n, rfl, r.1, r.2, fun hn => nd.2.2 n hn n (by simp) rfl⟩⟩
      · rw [permStep_flat, List.flatMap_def, List.pairwise_flatten]
        refine ⟨fun l hl => ?_, ?_⟩
        · obtain ⟨t, _, rfl⟩ := List.mem_map.mp hl
          unfold extP
          rw [List.pairwise_map]
          exact ((ri_sorted _ _).filter _).imp fun hh => lx_lt t [] [] hh
        · rw [List.pairwise_map]
          refine List.Pairwise.imp_of_mem ?_ s
          intro a b ha hb hab x hx y hy
          obtain ⟨n, rfl, _⟩ := mem_extP.mp hx
          obtain ⟨n', rfl, _⟩ := mem_extP.mp hy
          exact lx_same _ _ (((h a).mp ha).1.trans ((h b).mp hb).1.symm) hab
  intro ps
  have := key ps 0 [[]] (fun c => ?_) (List.pairwise_singleton _ _)
  · rw [Nat.zero_add] at this; exact this
  · constructor
    · intro h; simp at h; subst h; simp
    · rintro ⟨h, _, _⟩
      have : c = [] := List.eq_nil_of_length_eq_zero h
      rw [this]; simp
theorem allS_mem {w : Wb} (g : GoodW w) {c : List Int} : c ∈ allS w ↔ ValS w c := by
  have lo := g.lo
  unfold allS
  rw [List.mem_filter, (permN_spec (topW w) (ri 0 w.1.toNat)).1 c, sdiff_iff, ri_len]
  constructor
  · rintro ⟨⟨h1, h2, h3⟩, h4⟩
    exact ⟨⟨by omega, h2, h3⟩, h4⟩
  · intro h
    exact ⟨⟨by have := h.fit.len; omega, h.fit.rg, h.fit.nd⟩, h.ln⟩
theorem allS_sorted (w : Wb) : (allS w).Pairwise Lx := (permN_spec (topW w) (ri 0 w.1.toNat)).2.filter _
theorem firstS_is {w : Wb} (g : GoodW w) : firstS w = (allS w).head? := by
  unfold firstS
  rw [cont_head]
  have pv0 : PVS w [] := ⟨(fun _ h => by cases h), List.nodup_nil, by
    have : sumsU w [] = [] := by
      unfold sumsU
      rw [List.map_eq_nil_iff, List.filter_eq_nil_iff]
      intro q hq
      have := g.line q hq
      simp; omega
    rw [this]; exact List.nodup_nil⟩
  have hm := treeS_mem g w.1.toNat [] (by simp) pv0
  refine head_same (treeS_sorted w _ _) (allS_sorted w) (fun c hc => (allS_mem g).mpr ((hm c).mp hc).2) fun c hc => (hm c).mpr ⟨⟨c, by simp⟩, (allS_mem g).mp (List.mem_of_head? hc)⟩
theorem firstS_none {w : Wb} (g : GoodW w) : (firstS w).isNone = true ↔ ∀ c, ¬ ValS w c := by
  rw [firstS_is g, Option.isNone_iff_eq_none, List.head?_eq_none_iff]
  constructor
  · intro h c v
    have := (allS_mem g).mpr v
    rw [h] at this
    cases this
  · intro h
    exact List.eq_nil_iff_forall_not_mem.mpr fun c hc => h c ((allS_mem g).mp hc)
theorem firstS_some {w : Wb} (g : GoodW w) {c : List Int} (h : firstS w = some c) : ValS w c := by
  rw [firstS_is g] at h
  exact (allS_mem g).mp (List.mem_of_head? h)
theorem permStep_len (m : Int) (f : List (List Int)) : (permStep m f).length ≤ f.length * m.toNat := by
  rw [permStep_flat, List.flatMap_def]
  refine flat_len _ _ (fun s => ?_) f
  unfold extP
  rw [List.length_map]
  have := List.length_filter_le (fun n => !s.contains n) (ri 0 m.toNat)
  rw [ri_len] at this
  exact this
theorem permN_len (m : Int) : ∀ (ps : List Int) (f : List (List Int)), (ps.foldl (fun f _ => permStep m f) f).length ≤ f.length * m.toNat ^ ps.length
  | [], f => by simp
  | p :: ps, f => by
    have h1 := permStep_len m f
    have h2 := permN_len m ps (permStep m f)
    rw [List.foldl_cons, List.length_cons, Nat.pow_succ, Nat.mul_comm (m.toNat ^ ps.length), ← Nat.mul_assoc]
    exact Nat.le_trans h2 (Nat.mul_le_mul_right _ h1)
end U
namespace DL
open PySem L2 U
open Evl (Ex)
section
variable {T : TL} {X : XK} {t u t0 : TS} {g : TG} {ρ : List Sl} {ta : TA}
theorem forR_find {α : Type} {P : PyData → List Sl → Out → Prop} (enc : α → PyData) (f : α → Option (List Int)) : ∀ xs : List α, (∀ x ∈ xs, ∃ o, P (enc x) ρ o ∧ match f x with | none => o = .nx ρ | some c => ∃ ρ', o = .rt (eT c) ρ') →
    ∃ o, ForR P (xs.map enc) ρ o ∧ match xs.findSome? f with | none => o = .nx ρ | some c => ∃ ρ', o = .rt (eT c) ρ'
  | [], _ => ⟨_, .nil, rfl⟩
  | x :: xs, h => by
    obtain ⟨o, ho, hm⟩ := h x List.mem_cons_self
    rw [List.findSome?_cons]
    cases hf : f x with
    | none =>
      rw [hf] at hm
      subst hm
      obtain ⟨o', h1, h2⟩ := forR_find enc f xs fun y hy => h y (List.mem_cons_of_mem _ hy)
      exact ⟨o', .next ho h1, h2⟩
    | some c =>
      rw [hf] at hm
      obtain ⟨ρ', rfl⟩ := hm
      exact ⟨_, .stop ho, _, rfl⟩
/-- a loop that looks for the first, and None behind it -/
theorem find_end {n : Int} {f : Int → Option (List Int)} (h0 : SS T X t0 ρ (.nx ρ)) (h : EA T ta ρ [.int n] ρ) (hn : -100000 ≤ n ∧ n ≤ 100000) (turn : ∀ x ∈ ri 0 n.toNat, ∃ o, TurnD T X g t (.int x) ρ o ∧ match f x with | none => o = .nx ρ | some c => ∃ ρ', o = .rt (eT c) ρ') (rest : SS T X u ρ (.rt .none ρ)) :
    ∃ o, SS T X (tSeq t0 (tSeq (tFor (iRng1 ta) g t) u)) ρ o ∧ DL.Answers (.ok (optD ((ri 0 n.toNat).findSome? f))) o := by
  obtain ⟨o, h1, h2⟩ := forR_find (P := TurnD T X g t) PyData.int f (ri 0 n.toNat) turn
  cases hf : (ri 0 n.toNat).findSome? f with
  | none =>
    rw [hf] at h2
    subst h2
    exact ⟨_, ss_seq h0 (ss_seq (ss_forR1i h hn h1) rest), rfl⟩
  | some c =>
    rw [hf] at h2
    obtain ⟨ρ', rfl⟩ := h2
    exact ⟨_, ss_seq h0 (ss_seqR (ss_forR1i h hn h1)), rfl⟩
end
end DL
namespace U
open PySem L2 PyProof.Rows DL
open Evl (Ex)
open LamX (lamS_by)
section
variable {P : Program} {w : World} {K : PySem.W.Frag} {mg : Str → Option Value} {base : Heap} {xa : Str → Addr} {Cd cd Pd Pt : Addr}
abbrev s_need_lines : Stmt := topS 57
theorem sc_need_lines : FnScope ["web"] ["web"] (defScope s_need_lines) := ⟨rfl, rfl, rfl, by decide +kernel, rfl, by decide +kernel, by decide +kernel⟩
theorem bd_need_lines : BindsAs "need_lines" s_need_lines ["web"] := fun _ _ _ _ _ _ us hl => match us, hl with | [_], _ => rfl

def needLines (xa : XA) (d : PyData) : Res := if webB d = true then (if (toW d).2 = [] then .ex (xa "NoLines") else .ok .none) else .ex (xa "InvalidWeb")
def R_need_lines (xa : XA) : List PyData → Res → Prop := fun ds r => ∃ d, ds = [d] ∧ smallW d ∧ r = needLines xa d
theorem ok_need_lines (F : Fn K mg "need_lines" s_need_lines) (B : Bt mg) (x_NoLines : Xc K mg "NoLines" (xa "NoLines")) (c_need_web : Cal P w K mg base 4 "need_web" ["web"] (spP (R_need_web xa))) : Cal P w K mg base 5 "need_lines" ["web"] (spP (R_need_lines xa)) :=
  calP F sc_need_lines bd_need_lines (fun ds r ⟨_, e, _⟩ => by rw [e]; rfl) fun f cdv A outer s H E hr => by
  refine ⟨_, (pss_cons (ps_expr (pe_calX (E := E) c_need_web (hr.mono (by decide)) (by rfl) (takesN rfl rfl rfl rfl) (pa_cons (pv 0) pa_nil)))
      (pss_one (ps_if (pt_cmpR (eqDK (K := K) rfl (hu64 hr)) (pe_ix (ixT (K := K) rfl) (pv 0) pe_int (fun _ _ => rfl)) (pe_tup pa_nil) (nomark _)) (pss_one (ps_raiseC (E := E) x_NoLines rfl (by rfl) (takesN rfl rfl rfl rfl))) pss_nil))), fun ds r ⟨d, e1, hsm, e2⟩ => ?_⟩
  subst e1 e2
  unfold needLines
  by_cases h : webB d = true
  · rw [if_pos h]
    obtain ⟨v, rfl, ok⟩ := webB_iff.mp h
    rw [toW_eW]
    have first := ss_drop (X := E) (ee_call (T := []) (E := E) (R := R_need_web xa) (ea_1 (ee_var (ρ := slots 1 [eW v]) (i := 0) rfl)) ⟨eW v, rfl, hsm, by unfold needWeb; rw [if_pos h]⟩)
    have t := et_test (T := []) (ee_op (ee_w1 (K := K) (ρ := slots 1 [eW v]) (i := 0) (v := v) rfl) (ee_tup ea_nil (by simp)) (re_eqD (K := K) (sh_ePs _) sh_niT))
    rw [show PyData.tuple [] = ePs [] from rfl, eqv_ePs] at t
    by_cases hl : v.2 = []
    · rw [if_pos hl]
      rw [decide_eq_true hl] at t
      exact ⟨_, ss_seq first (ss_if t (fun _ => ss_raiseC) (fun h => by cases h)), rfl⟩
    · rw [if_neg hl]
      rw [decide_eq_false hl] at t
      exact ⟨_, ss_seq first (ss_if t (fun h => by cases h) (fun _ => ss_next)), rfl⟩
  · rw [if_neg h]
    exact ⟨_, ss_seqX (ss_callX (ea_1 (ee_var rfl)) ⟨d, rfl, hsm, by unfold needWeb; rw [if_neg h]⟩), rfl⟩

end
end U
namespace U
open PySem L2 PyProof.Rows DL
open Evl (Ex)
open LamX (lamS_by)
section
variable {P : Program} {w : World} {K : PySem.W.Frag} {mg : Str → Option Value} {base : Heap} {xa : Str → Addr} {Cd cd Pd Pt : Addr}
abbrev s_first_sum_good : Stmt := topS 60
theorem sc_first_sum_good : FnScope ["web"] ["web"] (defScope s_first_sum_good) := ⟨rfl, rfl, rfl, by decide +kernel, rfl, by decide +kernel, by decide +kernel⟩
theorem bd_first_sum_good : BindsAs "first_sum_good" s_first_sum_good ["web"] := fun _ _ _ _ _ _ us hl => match us, hl with | [_], _ => rfl

def R_first_sum_good (xa : XA) : List PyData → Res → Prop := fun ds r => ∃ d C, ds = [d] ∧ smallW d ∧ needLines xa d = .ex C ∧ r = .ex C
theorem ok_first_sum_good (F : Fn K mg "first_sum_good" s_first_sum_good) (B : Bt mg) (c_need_lines : Cal P w K mg base 5 "need_lines" ["web"] (spP (R_need_lines xa))) : Cal P w K mg base 6 "first_sum_good" ["web"] (spP (R_first_sum_good xa)) :=
  calP F sc_first_sum_good bd_first_sum_good (fun ds r ⟨_, _, e, _⟩ => by rw [e]; rfl) fun f cdv A outer s H E hr => by
  refine ⟨_, (pss_cons (ps_expr (pe_calX (E := E) c_need_lines (hr.mono (by decide)) (by rfl) (takesN rfl rfl rfl rfl) (pa_cons (pv 0) pa_nil)))
      pss_void), fun ds r ⟨d, C, e1, hsm, hC, e2⟩ => ?_⟩
  subst e1 e2
  exact ⟨_, ss_seqX (ss_callX (R := R_need_lines xa) (ea_1 (ee_var rfl)) ⟨d, rfl, hsm, hC.symm⟩), rfl⟩

end
end U
namespace U
open PySem L2 PyProof.Rows DL
open Evl (Ex)
open LamX (lamS_by)
section
variable {P : Program} {w : World} {K : PySem.W.Frag} {mg : Str → Option Value} {base : Heap} {xa : Str → Addr} {Cd cd Pd Pt : Addr}
abbrev s_need_few : Stmt := topS 52
theorem sc_need_few : FnScope ["web"] ["web"] (defScope s_need_few) := ⟨rfl, rfl, rfl, by decide +kernel, rfl, by decide +kernel, by decide +kernel⟩
theorem bd_need_few : BindsAs "need_few" s_need_few ["web"] := fun _ _ _ _ _ _ us hl => match us, hl with | [_], _ => rfl

def R_need_few (xa : XA) : List PyData → Res → Prop := fun ds r => ∃ (v : Wb), ds = [eW v] ∧ r = (if 9 < topW v then .ex (xa "TooMany") else .ok .none)
theorem ok_need_few (F : Fn K mg "need_few" s_need_few) (B : Bt mg) (x_TooMany : Xc K mg "TooMany" (xa "TooMany")) (c_top_of : Cal P w K mg base 1 "top_of" ["web"] (spP R_top_of)) : Cal P w K mg base 2 "need_few" ["web"] (spP (R_need_few xa)) :=
  calP F sc_need_few bd_need_few (fun ds r ⟨_, e, _⟩ => by rw [e]; rfl) fun f cdv A outer s H E hr => by
  refine ⟨_, (pss_one (ps_if (pt_cmpR op_gt (pe_cal c_top_of (hr.mono (by decide)) (by rfl) (pa_cons (pv 0) pa_nil)) pe_int (nomark _)) (pss_one (ps_raiseC (E := E) x_TooMany rfl (by rfl) (takesN rfl rfl rfl rfl))) pss_nil)), fun ds r ⟨v, e1, e2⟩ => ?_⟩
  subst e1 e2
  have t := et_test (T := []) (ee_op (ee_call (E := E0) (R := R_top_of) (ea_1 (ee_var (ρ := slots 1 [eW v]) (i := 0) rfl)) ⟨v, rfl, rfl⟩) (ee_int (i := 9)) re_gt)
  by_cases h : 9 < topW v
  · rw [if_pos h]
    rw [decide_eq_true h] at t
    exact ⟨_, ss_if t (fun _ => ss_raiseC) (fun h => by cases h), rfl⟩
  · rw [if_neg h]
    rw [decide_eq_false h] at t
    exact ⟨_, ss_if t (fun h => by cases h) (fun _ => ss_next), rfl⟩

end
end U
namespace U
open PySem L2 PyProof.Rows DL
open Evl (Ex)
open LamX (lamS_by)
section
variable {P : Program} {w : World} {K : PySem.W.Frag} {mg : Str → Option Value} {base : Heap} {xa : Str → Addr} {Cd cd Pd Pt : Addr}
abbrev s_count_good : Stmt := topS 53
theorem sc_count_good : FnScope ["web"] ["web"] (defScope s_count_good) := ⟨rfl, rfl, rfl, by decide +kernel, rfl, by decide +kernel, by decide +kernel⟩
theorem bd_count_good : BindsAs "count_good" s_count_good ["web"] := fun _ _ _ _ _ _ us hl => match us, hl with | [_], _ => rfl

def R_count_good (xa : XA) : List PyData → Res → Prop := fun ds r => ∃ (v : Wb), ds = [eW v] ∧ smallW (eW v) ∧ webB (eW v) = true ∧ 9 < topW v ∧ r = .ex (xa "TooMany")
theorem ok_count_good (F : Fn K mg "count_good" s_count_good) (B : Bt mg) (c_need_web : Cal P w K mg base 4 "need_web" ["web"] (spP (R_need_web xa))) (c_need_few : Cal P w K mg base 2 "need_few" ["web"] (spP (R_need_few xa))) : Cal P w K mg base 5 "count_good" ["web"] (spP (R_count_good xa)) :=
  calP F sc_count_good bd_count_good (fun ds r ⟨_, e, _⟩ => by rw [e]; rfl) fun f cdv A outer s H E hr => by
  refine ⟨_, (pss_cons (ps_expr (pe_calX (E := E) c_need_web (hr.mono (by decide)) (by rfl) (takesN rfl rfl rfl rfl) (pa_cons (pv 0) pa_nil)))
      (pss_cons (ps_expr (pe_calX (E := E) c_need_few (hr.mono (by decide)) (by rfl) (takesN rfl rfl rfl rfl) (pa_cons (pv 0) pa_nil)))
      pss_void)), fun ds r ⟨v, e1, hsm, hw, ht, e2⟩ => ?_⟩
  subst e1 e2
  exact ⟨_, ss_seq (ss_drop (ee_call (E := E) (R := R_need_web xa) (ea_1 (ee_var rfl)) ⟨eW v, rfl, hsm, by unfold needWeb; rw [if_pos hw]⟩)) (ss_seqX (ss_callX (R := R_need_few xa) (ea_1 (ee_var rfl)) ⟨v, rfl, by rw [if_pos ht]⟩)), rfl⟩

end
end U
namespace U
open PySem L2 PyProof.Rows DL
open Evl (Ex)
open LamX (lamS_by)
section
variable {P : Program} {w : World} {K : PySem.W.Frag} {mg : Str → Option Value} {base : Heap} {xa : Str → Addr} {Cd cd Pd Pt : Addr}
abbrev s_law_pairs : Stmt := topS 73
theorem sc_law_pairs : FnScope ["many", "found", "one", "other"] ["many"] (defScope s_law_pairs) := ⟨rfl, rfl, rfl, by decide +kernel, rfl, by decide +kernel, by decide +kernel⟩
theorem bd_law_pairs : BindsAs "_law_pairs" s_law_pairs ["many"] := fun _ _ _ _ _ _ us hl => match us, hl with | [_], _ => rfl

def R_law_pairs : List PyData → Res → Prop := fun ds r => ∃ n : Int, ds = [.int n] ∧ 0 ≤ n ∧ n ≤ 100 ∧ r = .ok (.list ((pairsN n).map eP))
theorem ok_law_pairs (F : Fn K mg "_law_pairs" s_law_pairs) (B : Bt mg) : Cal P w K mg base 1 "_law_pairs" ["many"] (spP R_law_pairs) :=
  calQ F sc_law_pairs bd_law_pairs (fun ds r ⟨_, e, _⟩ => by rw [e]; rfl) fun f cdv A outer s H E hr => by
  refine ⟨_, (pss_cons (ps_set (i := 1) sc_law_pairs.nd rfl (Or.inl rfl) (pe_lst pa_nil))
      (pss_cons (ps_for PassesOwn.never rfl (pi_range1 (by rfl) B.range (pa_cons (pv 0) pa_nil)) (pg_name (i := 2) sc_law_pairs.nd rfl (Or.inr rfl)) (pss_one (ps_set (i := 1) sc_law_pairs.nd rfl (Or.inl rfl) (pe_op op_cat (pv 1) (pe_lc (own := [("other", 3)]) (g := (gName 3)) (tt := tYes) rfl sc_law_pairs.nd (pi_range2 (by rfl) B.range (pa_cons (pe_op op_add (pv 2) pe_int) (pa_cons (pv 0) pa_nil))) (blkOk_by (own := [("other", 3)]) (N := ["many", "found", "one", "other"]) (sc := defScope s_law_pairs) (by decide +kernel)) (fun _ _ _ _ _ => (pg_name (i := 3) sc_law_pairs.nd rfl (Or.inl rfl))) (fun _ _ _ _ _ => pts_nil) (fun _ _ _ _ _ => (pe_tup (pa_cons (pv 2) (pa_cons (pv 3) pa_nil)))))))))
      (pss_one (ps_ret (pv 1))))), fun ds r ⟨n, e1, h0, h1, e2⟩ => ?_⟩
  subst e1 e2
  refine ⟨_, ss_seq (ss_set (el_lst ea_nil (by decide)).ee) (ss_seq (ss_forR1 (n := n) (ea_1 (ee_var rfl)) (by omega) (o := .nx [.dat (.int n), .dat (.list ((pairsN n).map eP)), .no, .no]) ?_) (ss_ret (ee_var rfl))), rfl⟩
  rw [rng_ri]
  refine forR_pre PyData.int (fun pre => [.dat (.int n), .dat (.list ((pre.foldl (fun l one => l ++ pairsFrom n one) []).map eP)), .no, .no]) (ri 0 n.toNat) fun pr one post e => ?_
  have hall : ∀ x ∈ pr ++ one :: post, 0 ≤ x ∧ x < n := fun x hx => by rw [← e] at hx; have := mem_ri.mp hx; omega
  have hone := hall one (by simp)
  have hpr : pr.length ≤ 100 := by have := congrArg List.length e; rw [ri_len] at this; simp at this; omega
  have hl := fold_pairs_len h1 pr [] fun x hx => (hall x (by simp [hx])).1
  have hl2 := pairsFrom_len n one h1 hone.1
  refine ⟨_, eg_name, ss_forget (ss_set (el_op (es := ((pr.foldl (fun l one => l ++ pairsFrom n one) []) ++ pairsFrom n one).map eP) (ee_var rfl) (el_lcR2p (lo := one + 1) (n := n) (es := (pairsFrom n one).map eP) (ea_2 (ee_op (ee_var rfl) ee_int re_add) (ee_var rfl)) (by omega) (by omega) ?_ (by rw [List.length_map]; omega)).ee ?_).ee) ?_⟩
  · unfold pairsFrom
    rw [List.map_map]
    exact lcr_map PyData.int (fun o => eP (one, o)) (ri (one + 1) (n - (one + 1)).toNat) fun o _ => lc1m (by intro _ _ h; cases h) (ee_tup (ea_2 (ee_var rfl) (ee_var rfl)) (by simp))
  · rw [List.map_append]
    exact rel_cat (by simp only [List.length_map]; rw [List.length_nil] at hl; omega)
  · rw [List.foldl_append]
    exact .same (.same (.no (.no .nil)))

end
end U
namespace U
open PySem L2 PyProof.Rows DL
open Evl (Ex)
open LamX (lamS_by)
section
variable {P : Program} {w : World} {K : PySem.W.Frag} {mg : Str → Option Value} {base : Heap} {xa : Str → Addr} {Cd cd Pd Pt : Addr}
abbrev s_Desk_take : Stmt := methS (topS 40) 3
theorem sc_Desk_take : FnScope ["self", "place", "number"] ["self", "place"] (defScope s_Desk_take) := ⟨rfl, rfl, rfl, by decide +kernel, rfl, by decide +kernel, by decide +kernel⟩
theorem bd_Desk_take : BindsM "take" "Desk.take" s_Desk_take ["self", "place"] := fun _ _ _ _ _ _ us hl => match us, hl with | [_, _], _ => rfl

def R_Desk_take (xa : XA) : Fs → List PyData → Res → Fs → Prop := fun st ds r st' => ∃ (s : Dk) (d : PyData), st = eDk s ∧ ds = [d] ∧ DkOk s 1000 ∧ says xa s (takeO s d) r st'
theorem ok_Desk_take (F : MFn K Cd "take" "Desk.take" s_Desk_take) (B : Bt mg) (x_NotThere : Xc K mg "NotThere" (xa "NotThere")) (dk : DeskC K Cd) (c_need_place : Cal P w K mg base 2 "need_place" ["web", "place"] (spP (R_need_place xa))) (c_Desk_change : CalM P w K mg base 1 Cd "change" ["self", "numbers"] (spM Cd R_Desk_change)) (c_with_number : Cal P w K mg base 1 "with_number" ["numbers", "place", "number"] (spP R_with_number)) : CalM P w K mg base 3 Cd "take" ["self", "place"] (spM Cd (R_Desk_take xa)) :=
  calMm F sc_Desk_take bd_Desk_take (fun cs ds r cs' ⟨_, _, _, e, _⟩ => by rw [e]; rfl) fun f cdv A outer s H E hr => by
  refine ⟨_, (pss_cons (ps_expr (pe_calX (E := E) c_need_place (hr.mono (by decide)) (by rfl) (takesN rfl rfl rfl rfl) (pa_cons (fldK (K := K) rfl (pv 0)) (pa_cons (pv 1) pa_nil))))
      (pss_cons (ps_set (i := 2) sc_Desk_take.nd rfl (Or.inl rfl) (pe_ix (ixT (K := K) rfl) (fldK (K := K) rfl (pv 0)) (pv 1) (fun _ _ => rfl)))
      (pss_cons (ps_if (pt_cmpR op_isN (pv 2) pe_non (nomark _)) (pss_one (ps_raiseC (E := E) x_NotThere rfl (by rfl) (takesN rfl rfl rfl rfl))) pss_nil)
      (PSs.nox (pss_cons (ps_expr (calMK (K := K) rfl c_Desk_change dk.cls (hr.mono (by decide)) (pv 0) (pa_cons (pe_cal c_with_number (hr.mono (by decide)) (by rfl) (pa_cons (fldK (K := K) rfl (pv 0)) (pa_cons (pv 1) (pa_cons pe_non pa_nil)))) pa_nil)))
      (pss_one (ps_ret (pv 2)))))))), fun p cs ds r cs' ⟨s, d, e1, e2, ok, e3⟩ => ?_⟩
  subst e1 e2
  have g := good_of ok.ok
  have hi := g.hi
  have hlen := ok.len
  cases hw : wholeB d 0 (s.web.1 - 1) with
  | false =>
    have ho : takeO s d = .inl "InvalidPlace" := by
      unfold takeO
      split
      · rw [if_neg (by rw [hw]; decide)]
      · rfl
    rw [ho] at e3
    obtain ⟨e3, e4⟩ := e3
    subst e3 e4
    exact ⟨_, ss_seqX (ss_callX (R := R_need_place xa) (ea_2 (ee_web dk rfl) (ee_var rfl)) ⟨s.web, d, rfl, by rw [hw]; rfl⟩), rfl, rfl⟩
  | true =>
    obtain ⟨i, rfl, h0, h1⟩ := wholeB_int hw
    have ho : takeO s (.int i) = takeI s i := by show (if _ then _ else _) = _; rw [if_pos hw]
    rw [ho] at e3
    have st1 := ss_drop (X := E) (ee_call (E := E) (T := []) (R := R_need_place xa) (ea_2 (ee_web (ρ := slotsM p Cd 3 (eDk s) [.int i]) (i := 0) dk rfl) (ee_var (i := 1) rfl)) ⟨s.web, .int i, rfl, by rw [hw, if_pos rfl]⟩)
    have st2 := ss_set (X := E) (i := 2) (ee_op (T := []) (ee_now (ρ := slotsM p Cd 3 (eDk s) [.int i]) (i := 0) dk rfl) (ee_var (i := 1) rfl) (re_ixT (K := K) (atN_ok h0 (by omega))))
    unfold takeI at e3
    cases hx : atN s.now i with
    | none =>
      rw [hx] at e3 st2
      obtain ⟨e3, e4⟩ := e3
      subst e3 e4
      exact ⟨_, ss_seq st1 (ss_seq st2 (ss_seqX (ss_if (ET.is (et_test (ee_op (ee_var (d := eO none) (i := 2) rfl) ee_non re_isN)) (show _ = true from rfl)) (fun _ => ss_raiseC) (fun h => by cases h)))), rfl, rfl⟩
    | some x =>
      rw [hx] at e3 st2
      obtain ⟨e3, e4⟩ := e3
      subst e3 e4
      exact ⟨_, ss_seq st1 (ss_seq st2 (ss_seq (ss_if (ET.is (et_test (ee_op (ee_var (d := eO (some x)) (i := 2) rfl) ee_non re_isN)) (show _ = false from rfl)) (fun h => by cases h) (fun _ => ss_next)) (ss_seq (ss_drop (ee_meth (i := 0) (R := R_Desk_change) rfl rfl (ea_1 (ee_call (R := R_with_number) (ea_3 (ee_now dk rfl) (ee_var rfl) (ee_non (ρ := _))) ⟨s.now, i, none, rfl, h0, by omega, by omega, rfl⟩)) rfl rfl ⟨s, withN s.now i none, rfl, rfl, ok, rfl, rfl⟩)) (ss_ret (ee_var (d := .int x) rfl))))), rfl, rfl⟩

end
end U
namespace U
open PySem L2 PyProof.Rows DL
open Evl (Ex)
open LamX (lamS_by)
section
variable {P : Program} {w : World} {K : PySem.W.Frag} {mg : Str → Option Value} {base : Heap} {xa : Str → Addr} {Cd cd Pd Pt : Addr}
abbrev s_Desk_redo : Stmt := methS (topS 40) 7
theorem sc_Desk_redo : FnScope ["self"] ["self"] (defScope s_Desk_redo) := ⟨rfl, rfl, rfl, by decide +kernel, rfl, by decide +kernel, by decide +kernel⟩
theorem bd_Desk_redo : BindsM "redo" "Desk.redo" s_Desk_redo ["self"] := fun _ _ _ _ _ _ us hl => match us, hl with | [_], _ => rfl

def R_Desk_redo (xa : XA) : Fs → List PyData → Res → Fs → Prop := fun st ds r st' => ∃ (s : Dk), st = eDk s ∧ ds = [] ∧ DkOk s 1000 ∧ says xa s (redoO s) r st'
theorem ok_Desk_redo (F : MFn K Cd "redo" "Desk.redo" s_Desk_redo) (B : Bt mg) (x_NothingToUndo : Xc K mg "NothingToUndo" (xa "NothingToUndo")) (dk : DeskC K Cd) : CalM P w K mg base 1 Cd "redo" ["self"] (spM Cd (R_Desk_redo xa)) :=
  calMm F sc_Desk_redo bd_Desk_redo (fun cs ds r cs' ⟨_, _, e, _⟩ => by rw [e]; rfl) fun f cdv A outer s H E hr => by
  refine ⟨_, (pss_cons (ps_if (pt_cmpR (eqDK (K := K) rfl (hu64 hr)) (fldK (K := K) rfl (pv 0)) (pe_lst pa_nil) (nomark _)) (pss_one (ps_raiseC (E := E) x_NothingToUndo rfl (by rfl) (takesN rfl rfl rfl rfl))) pss_nil)
      (PSs.nox (pss_cons (sfldK (K := K) rfl (pv 0) (pe_op op_cat (fldK (K := K) rfl (pv 0)) (pe_lst (pa_cons (fldK (K := K) rfl (pv 0)) pa_nil))))
      (pss_cons (sfldK (K := K) rfl (pv 0) (pe_ix (ixL (K := K) rfl) (fldK (K := K) rfl (pv 0)) (pe_un un_neg pe_int) (fun _ _ => rfl)))
      (pss_cons (sfldK (K := K) rfl (pv 0) (pe_slice (slLK (K := K) rfl) (fldK (K := K) rfl (pv 0)) po_none (po_some (pe_un un_neg pe_int))))
      (pss_one (ps_ret (fldK (K := K) rfl (pv 0))))))))), fun p cs ds r cs' ⟨s, e1, e2, ok, e3⟩ => ?_⟩
  subst e1 e2
  have hz := ok.sz
  have tt := et_test (T := []) (ee_op (ee_undone (ρ := slotsM p Cd 1 (eDk s) []) (i := 0) dk rfl) (el_lst ea_nil (by decide)).ee (re_eqD (K := K) (sh_eE s.undone) (sh_eE [])))
  rw [eqv_eE_nil] at tt
  unfold redoO at e3
  cases h : s.undone.getLast? with
  | none =>
    rw [h] at e3
    obtain ⟨e3, e4⟩ := e3
    subst e3 e4
    have hn := List.getLast?_eq_none_iff.mp h
    exact ⟨_, ss_seqX (ss_if (tt.is (decide_eq_true hn)) (fun _ => ss_raiseC) (fun h => by cases h)), rfl, rfl⟩
  | some ns =>
    rw [h] at e3
    obtain ⟨e3, e4⟩ := e3
    subst e3 e4
    have hn : s.undone ≠ [] := fun z => by rw [z] at h; cases h
    exact ⟨_, ss_seq (ss_if (tt.is (decide_eq_false hn)) (fun h => by cases h) (fun _ => ss_next)) (ss_seq (ss_earlier dk (ee_snoc (ee_earlier dk rfl) (ee_now dk rfl) (by omega)) rfl rfl) (ss_seq (ss_now dk (ee_last (ee_undone (s := ⟨s.web, s.now, s.earlier ++ [s.now], s.undone⟩) dk rfl) h) rfl rfl) (ss_seq (ss_undone dk (ee_butlast (ee_undone (s := ⟨s.web, ns, s.earlier ++ [s.now], s.undone⟩) dk rfl)) rfl rfl) (ss_ret (ee_now (s := ⟨s.web, ns, s.earlier ++ [s.now], s.undone.dropLast⟩) dk rfl))))), rfl, rfl⟩

end
end U
/-! XcK: an exception that is caught, given back, kept, and asked for its class later. -/
namespace DL
open PySem PySem.Spec PyProof.Rows L2 HotX LamX
open Evl (Ex)
/-- at a stands an exception of the class cls, as it was caught -/
def ExK (cls : Value) (a : Addr) : HO := .ext fun hp => ∃ ob fl, hp.get? a = some ob ∧ Zc cls none ob ∧ ob.data = .fields fl
theorem exK_tbl {cls : Value} {a : Addr} (ps : Array Value) : ExK cls a ≠ .tbl ps := fun z => by unfold ExK at z; cases z
theorem exK_lst {cls : Value} {a : Addr} (xs : List V) : ExK cls a ≠ .lst xs := fun z => by unfold ExK at z; cases z
theorem exK_ok {P : Program} {w : World} {H : Hp} {hp : Heap} {a : Addr} {cls : Value} {ob : Obj} {fl : Array Value} (at_ : hp.get? a = some ob) (z : Zc cls none ob) (d : ob.data = .fields fl) : ObjOk P w H hp a (ExK cls a) :=
  ⟨⟨ob, fl, at_, z, d⟩, ⟨ob, at_⟩, fun _ _ ⟨o1, f1, g1, g2⟩ keeps => ⟨o1, f1, keeps o1 g1, g2⟩⟩
section
variable {X : Cx} {pins : List (Addr × Obj)} {σ : L2.St} {H : Hp} {s : Shared}
/-- a pinned exception becomes a tracked one -/
theorem track {a : Addr} {ob : Obj} {cls : Value} {fl : Array Value} (I : L2.Inv X ((a, ob) :: pins) σ H s) (z : Zc cls none ob) (d : ob.data = .fields fl) (new : X.s_0.heap.get? a = none) (apart : ∀ p ∈ X.pn ++ pins, p.1 ≠ a) :
    L2.Inv X pins σ (upd H a (ExK cls a)) s := by
  obtain ⟨here, na, nl, nf, _⟩ := I.pin (a, ob) (List.mem_append_right _ List.mem_cons_self)
  dsimp only at here na nl nf
  have old : ∀ b u, X.s_0.heap.get? b = some u → b ≠ a := fun b u e q => by rw [q, new] at e; cases e
  have gone : ∀ b u, H b = some u → b ≠ a := fun b u e => ne_of_none e na
  refine ⟨I.ok, I.os, I.bare, ⟨I.base.keep, I.base.slot, fun b u e n hx => ?_, I.base.there, fun b xs e => ?_, fun b u v e => ?_, fun b ps e => ?_⟩, I.loc, I.cell, ?_, fun y cl e => ?_, fun p hp => ?_, fun b u e => ?_, I.len⟩
  · rw [upd_ne (old b u e)]; exact I.base.free b u e n hx
  · have q := I.base.tups b xs e
    rw [upd_ne (gone b _ q)]; exact q
  · have q := I.base.frzs b u v e
    rw [upd_ne (gone b _ q)]; exact q
  · obtain ⟨m, q⟩ := I.base.tbls b ps e
    exact ⟨m, by rw [upd_ne (gone b _ q)]; exact q⟩
  · rw [upd_ne (Ne.symm nl)]; exact I.free
  · have ne : cl ≠ a := fun q => by
      subst q
      obtain ⟨v, oc, e1, e2⟩ := I.cell y cl e
      rw [here] at e1
      cases e1
      rw [d] at e2
      cases e2
    rw [upd_ne ne]; exact I.freeC y cl e
  · have hp' : p ∈ X.pn ++ ((a, ob) :: pins) := by
      rcases List.mem_append.mp hp with q | q
      · exact List.mem_append_left _ q
      · exact List.mem_append_right _ (List.mem_cons_of_mem _ q)
    obtain ⟨q1, q2, q3⟩ := I.pin p hp'
    exact ⟨q1, by rw [upd_ne (apart p hp)]; exact q2, q3⟩
  · by_cases q : b = a
    · subst q
      rw [upd_same] at e
      cases e
      exact exK_ok here z d
    · rw [upd_ne q] at e
      exact (I.hok b u e).stay (fun _ _ _ r => r) (fun cc r => by rw [upd_ne (gone cc _ r)]; exact r) fun cc xs r => by rw [upd_ne (gone cc _ r)]; exact r
end
/-- what the try wishes of an exception: it is caught, and given back as a thing that is tracked -/
def wMet (K : PySem.W.Frag) (c : Value) (D : Ends) : WX := fun cls d _ H => PySem.W.exmOne K cls c = some true ∧ d = none ∧ ∀ a, H a = none → D.rt (.ref a) (upd H a (ExK cls a))
section
variable {X : Cx} {x n : Str} {c : Value} {i : Nat} {body : List Stmt} {np p1 p2 pos pos' : Pos} {tb : WX → TS}
/-- try: body / except x as n: return n -/
theorem ps_met (hst : X.stack = X.env :: X.outer) (hfr : X.env.frame = some X.env.locals) (hex : X.ex = []) (nd : X.N.Nodup) (hi : X.N[i]? = some n) (loc : X.env.kindOf n = some .local) (gl : Gl X x) (hm : X.mg x = some c) (nx : (x == ("__debug__" : Str)) = false) (nn : (n == ("__debug__" : Str)) = false) (ncd : (n == ("__classdict__" : Str)) = false)
    (hb : ∀ (W : WX) (pn : List (Addr × Obj)) (xe : Value → Shared → Prop), L2N.Takes (X.tr pn xe) W → PSs (X.tr pn xe) body (tb W)) :
    PS X (.Try body [.ExceptHandler (some (.Name x np)) (some n) [.Return (some (.Name n p1)) p2] pos'] [] [] pos) (fun D σ H => tb (wMet X.K c D) D σ H) := by
  refine ⟨fun pins s σ H D I h => wpAny_Try_except ?_⟩
  have top : X.A.frames = some (X.env :: X.outer) := I.ok.frames.trans (congrArg some hst)
  have caught : L2N.Takes (X.tr (X.pn ++ pins) fun ev t1 => wpAny (model X.prog X.w) X.A (noteFrame ev X.env) (fun _ t2 => wpAny (model X.prog X.w) X.A (setFlight ev none) (fun _ t3 =>
      wpAny (model X.prog X.w) X.A (handleBy ev X.env [.ExceptHandler (some (.Name x np)) (some n) [.Return (some (.Name n p1)) p2] pos']) (SP X pins D) X.xe t3) X.xe t2) X.xe t1) (wMet X.K c D) := by
    rintro _ t ⟨a, G, t0, pp, σ1, H1, cls, d, rfl, J0, ground, rise, sky, na, hos, hag, hcls, hd, hq⟩
    subst hd
    have J : L2.Inv X pins σ1 H1 t0 := J0.ofTry I.ok
    have sky : Sky G (X.env :: X.outer) a (L2N.Zn cls none) X.env.locals t.heap := hst ▸ sky
    refine L2N.Sky.land L2N.Zn.steady top hfr sky fun g1 fly1 rise1 => ?_
    have none_ : G.get? a = none := fly1.2.1
    have at1 := J.landed (s' := { t with heap := g1 }) ground fly1.1 (rise.trans rise1) hos hag
    obtain ⟨o1, v1, e1, z1, f1⟩ := fly1.there
    have off : a ∉ frs (X.env :: X.outer) := fun hin => by
      obtain ⟨_, o', e', hno⟩ := fly1.2.2.1.mem hin
      rw [e1] at e'
      cases e'
      exact hno _ f1
    have offS : a ∉ frs X.stack := by rw [hst]; exact off
    have notL : a ≠ X.env.locals := fun q => off (List.mem_filterMap.mpr ⟨X.env, List.mem_cons_self, by rw [q]; exact hfr⟩)
    have notF : a ∉ X.fs := fun hin => by
      obtain ⟨ev, m1, m2⟩ := List.mem_filterMap.mp hin
      exact off (List.mem_filterMap.mpr ⟨ev, List.mem_cons_of_mem _ m1, m2⟩)
    have fresh : ∀ o, t0.heap.get? a ≠ some o := fun o q => by
      have := ground a o q offS
      rw [none_] at this
      cases this
    have new : X.s_0.heap.get? a = none := by
      cases q : X.s_0.heap.get? a with
      | none => rfl
      | some o =>
        obtain ⟨o', q'⟩ := J.base.there a o q (by rw [hex]; exact List.not_mem_nil)
        exact absurd q' (fresh o')
    have apart : ∀ p ∈ X.pn ++ pins, p.1 ≠ a := fun p hp q => by
      have := (J.pin p hp).1
      rw [q] at this
      exact fresh _ this
    have inS := at1.suite e1 f1 na notL notF
    refine wpAny_handleBy_cons (codeAny_handlers_test ?_) (fun q => by cases q)
    have kind : PySem.W.Looks (model X.prog X.w) g1 (typeOf (.ref a)) cls := fun _ _ _ _ stays ok1 => wpAny_typeOf_ref (stays _ _ e1) (by rw [z1.1]; exact ok1)
    have fits := PySem.W.exm_one (M := model X.prog X.w) at1.kIn kind hcls
    refine ld_glob (X := X.suite a ((a, o1) :: (X.pn ++ pins))) inS gl hm (fits.here ?_) nx
    refine codeAny_handlers_suite_as (HandSPX.lands_againZ fly1 fun g2 fly2 rise2 => ?_)
    have at2 := J.landed (s' := { t with heap := g2 }) ground fly2.1 ((rise.trans rise1).trans rise2) hos hag
    obtain ⟨o2, v2, e2, z2, f2⟩ := fly2.there
    refine store_ok (X := X.suite a ((a, o2) :: (X.pn ++ pins))) (v := .ref a) (at2.suite e2 f2 na notL notF) nd hi (.inl loc) rfl (fun t5 S5 => ?_) (.inr loc)
    have ret : PSs (X.suite a ((a, o2) :: (X.pn ++ pins))) [.Return (some (.Name n p1)) p2] _ := pss_one (ps_ret (pe_var (i := i) hi (.inl loc) nn ncd))
    have hlt : i < σ1.length := by
      have := J.len
      rw [this]
      exact (List.getElem?_eq_some_iff.mp hi).1
    refine wpAny_mono (ret.run [] t5 _ H1 { nx := fun _ _ => False, rt := fun v H6 => v = .ref a ∧ H6 = H1, bk := fun _ _ => False, ct := fun _ _ => False } S5 ⟨.ref a, List.getElem?_set_self hlt, rfl, rfl⟩) (fun fl t6 hsp => ?_) (fun _ _ z => False.elim z)
    cases fl with
    | ret u =>
      obtain ⟨v6, σ6, H6, S6, r6, rfl, rfl⟩ := hsp
      have P6 : L2.Inv X ((a, o2) :: pins) σ6 H6 t6 := ⟨I.ok, S6.os, S6.bare, S6.base, S6.loc, S6.cell, S6.free, S6.freeC, fun p hp => S6.pin p (by
        rw [List.append_nil]
        rcases List.mem_append.mp hp with q | q
        · exact List.mem_cons_of_mem _ (List.mem_append_left _ q)
        · rcases List.mem_cons.mp q with q | q
          · rw [q]; exact List.mem_cons_self
          · exact List.mem_cons_of_mem _ (List.mem_append_right _ q)), S6.hok, S6.len⟩
      exact gone_ok P6 nd hi loc fun t7 J7 => ⟨.ref a, _, _, track J7 z2.zc f2 new apart, r6, hq a na⟩
    | next => obtain ⟨_, _, _, z⟩ := hsp; exact z.elim
    | brk => obtain ⟨_, _, _, z⟩ := hsp; exact z.elim
    | cont => obtain ⟨_, _, _, z⟩ := hsp; exact z.elim
  refine wpAny_mono ((hb (wMet X.K c D) (X.pn ++ pins) _ caught).run [] s σ H D (I.toTry _) h) (fun fl t1 hsp => ?_) (fun _ _ z => z)
  cases fl with
  | next => obtain ⟨σ1, H1, J1, q⟩ := hsp; exact wpAny_execs_nil ⟨σ1, H1, J1.ofTry I.ok, q⟩
  | ret u => obtain ⟨v, σ1, H1, J1, r, q⟩ := hsp; exact ⟨v, σ1, H1, J1.ofTry I.ok, r, q⟩
  | brk => obtain ⟨σ1, H1, J1, q⟩ := hsp; exact ⟨σ1, H1, J1.ofTry I.ok, q⟩
  | cont => obtain ⟨σ1, H1, J1, q⟩ := hsp; exact ⟨σ1, H1, J1.ofTry I.ok, q⟩
end
/-- the def that gives back what it caught: its statement -/
structure MetSt (st : Stmt) : Prop where
  body : ∃ p1 p2 p3 p4 p5 p6 p7 p8 p9 p10 j, defBody st = [.Try [.Expr (.Call (.Name "deed" p1) [] [] p2) p3] [.ExceptHandler (some (.Name "LineError" p4)) (some "e") [.Return (some (.Name "e" p5)) p6] p7] [] [] p8, .Return (some (.Constant .none j p9)) p10]
  sc : FnScope ["deed", "e"] ["deed"] (defScope st)
  bd : BindsAs "_law_met" st ["deed"]
  vd : (defScope st).names.lookup ("deed" : Str) = some .local
  ve : (defScope st).names.lookup ("e" : Str) = some .local
  gl : (defScope st).names.lookup ("LineError" : Str) = some .globalImplicit
/-- _law_met(lambda: body): t the body's reading by what is wished of its exceptions -/
def tMet (K : PySem.W.Frag) (L : Addr) (T : TL) (t : XK → TE) : TE := fun σ H Q => Tabs T H ∧ ∀ H1, ExtN H H1 → Tabs T H1 →
  t (fun cls d H' => PySem.W.exmOne K cls (.ref L) = some true ∧ d = none ∧ ∀ a, H' a = none → Q (.ref a) (upd H' a (ExK cls a))) σ H1 fun _ H' => Q .non H'
section
variable {X : Cx}
theorem pe_met {T : TL} {L : Addr} {st : Stmt} {c P : Addr} {k : Nat} {params : Arguments} {body : Expr} {scope : Scope} {t : XK → TE} {p lpos pos : Pos} (F : Fn X.K X.mg "_law_met" st) (S : MetSt st)
    (hl : X.mg "LineError" = some (.ref L)) (hg : Gl X "_law_met")
    (TB : TabB X.base X.mg c P) (hcode : X.env.code = .ref c) (hmT : (P, X.env.qual ++ "<lambda>") ∈ T) (hu : ∀ p ∈ T, p.1 = P → p.2 = X.env.qual ++ "<lambda>") (hr : Room (k + 2) X.A) (Ls : LamS X.env.scope scope) (hdef : defaultsOf params X.env = ([], []))
    (hbind : ∀ (q : Str) (cl : List (Str × Addr)) (pm cv ctv : Value), bindArgs (PySem.W.kla_fn "<lambda>" q params body scope cl pm cv ctv) ⟨[], []⟩ = pure [])
    (hbody : ∀ (A : Around) (outer : List PySem.Env) (s : Shared) (H : Hp) (E : XK) (f c' : Addr), Room k (A.deeper (lamEnv X scope s.heap.objs.size f c')) → PE (lamN X A outer s H E scope f c') body (t E)) :
    PE X (.Call (.Name "_law_met" p) [.Lambda params body scope lpos] [] pos) (tMet X.K L T t) := by
  obtain ⟨g, fd, Fu, hm⟩ := F.ex
  have kp := Fu.kp
  have bi := Fu.binds S.bd
  obtain ⟨oc, od, kV, doc, pm, an, cdv, ct, osl, rfl, lk, hcd⟩ := Fu.ex
  obtain ⟨p1, p2, p3, p4, p5, p6, p7, p8, p9, p10, j, hbd⟩ := S.body
  refine ⟨fun pins s σ H Q I h => ?_⟩
  obtain ⟨hT, h⟩ := h
  refine wpAny_Call_Name_kw (ld_glob I hg hm ?_ (by decide))
  refine PySem.W.callWith_K (h₀ := X.base) I.ok.mod.kin kp ?_ (by rfl) (by rfl)
  show wpAny _ _ (spliced ((false, eval (.Lambda params body scope lpos) X.env) :: backTo pos (starEach [] X.env))) _ _ s
  refine Calls.spliced_cons (lam_make2 I TB hcode hmT hu hT hdef (Ls.has I.ok) fun f c' pm' ctv H1 s' I1 eN T1 hf hfn hfr hco => ?_)
  refine Calls.spliced_nil ⟨I1.kIn, ?_⟩
  have hh := h H1 eN T1
  clear h
  generalize hW : (fun cls d H' => PySem.W.exmOne X.K cls (.ref L) = some true ∧ d = none ∧ ∀ a, H' a = none → Q (.ref a) (upd H' a (ExK cls a)) : XK) = Ew at hh
  have rc : codeAny (model X.prog X.w) X.A (.call (.ref g) ⟨[.ref f], []⟩) (CR CX0 X.stack X.prog X.w H1 s' Q E0) s' := by
    refine run_ofS (N := ["deed", "e"]) (ps := ["deed"]) (us := [.ref f]) (vs := [.ref f]) (k := k + 1) lk hcd S.sc hr I1.env0 (bi s' [.ref f] I1.kIn rfl) (.cons rfl .nil) rfl fun hr' => ?_
    rw [hbd]
    generalize hZ : cxOf CX0 X.prog X.w X.K X.mg X.base ["deed", "e"] "_law_met" (defScope st) g cdv X.A X.stack s' H1 E0 = Z
    have zs : Z.stack = Z.env :: Z.outer := by rw [← hZ]; rfl
    have zf : Z.env.frame = some Z.env.locals := by rw [← hZ]; rfl
    have body1 : ∀ (W : WX) (pn : List (Addr × Obj)) (xe : Value → Shared → Prop), L2N.Takes (Z.nox.tr pn xe) W → PSs (Z.nox.tr pn xe) [.Expr (.Call (.Name "deed" p1) [] [] p2) p3]
        (fun D σZ HZ => (∀ cls d H', Ew cls d H' → W cls d σZ H') ∧ σZ[0]? = some (some (.ref f)) ∧ HZ c' = some (CodeO c' (X.env.qual ++ "<lambda>")) ∧ t Ew σ HZ fun _ H' => D.nx σZ H') := by
      intro W pn xe tk
      refine ⟨fun pins' sZ σZ HZ D IZ hz => ?_⟩
      obtain ⟨hWW, h1, h2, h3⟩ := hz
      have pd : PE (Z.nox.tr pn xe) (.Call (.Name "deed" p1) [] [] p2) (fun σ' H' Q' => σ' = σZ ∧ H' = HZ ∧ Q' = fun _ H1 => D.nx σZ H1) := by
        refine ⟨fun pins2 s2 σ2 H2 Q2 I2 ⟨e1, e2, e3⟩ => ?_⟩
        subst e1 e2 e3
        refine wpAny_Call_Name_kw (thn ((pe_var (X := Z.nox.tr pn xe) (pos := p1) (i := 0) (x := "deed") (by rw [← hZ]; rfl) (.inl (by rw [← hZ]; exact S.vd))).run pins2 s2 σ2 H2 (fun v H3 => v = .ref f ∧ H3 = H2) I2 ⟨.ref f, h1, rfl, rfl⟩) fun u s3 ⟨v, H3, I3, r3, q3⟩ => ?_)
        obtain ⟨ev, eH⟩ := q3
        subst ev
        rw [eH] at I3
        obtain rfl : u = Value.ref f := r3
        have un : Un (frs X.stack) [] H1 H2 s'.heap s3.heap := by
          have := I3.base
          rw [← hZ] at this
          exact this
        refine PySem.W.callWith_F0 ⟨_, _, _, _, un.keep f _ hf hfn hfr (fun z => nomatch (show f ∈ ([] : List Addr) from z))⟩ ?_
        have A0 : (Z.nox.tr pn xe).A = X.A.deeper (envOfC "_law_met" (defScope st) s'.heap.objs.size g cdv) := by rw [← hZ]; rfl
        have hr2 : Room k ((X.A.deeper (envOfC "_law_met" (defScope st) s'.heap.objs.size g cdv)).deeper (lamEnv X scope s3.heap.objs.size f c')) := hr'.deeper _
        have e0 := I3.env0
        have pw : Z.prog = X.prog ∧ Z.w = X.w ∧ Z.K = X.K ∧ Z.mg = X.mg ∧ Z.base = X.base := by rw [← hZ]; exact ⟨rfl, rfl, rfl, rfl, rfl⟩
        have rl : codeAny (model X.prog X.w) (Z.nox.tr pn xe).A (.call (.ref f) ⟨[], []⟩) (CR (L2N.CX X.prog X.w) (Z.nox.tr pn xe).stack X.prog X.w H2 s3 (fun _ H1 => D.nx σ2 H1) Ew) s3 := by
          rw [A0] at e0 ⊢
          refine lam_run I1 Ls hf hfn hfr (hbind _ _ _ _ _) (by obtain ⟨a1, a2, a3, a4, a5⟩ := pw; rw [← a1, ← a2, ← a3, ← a4, ← a5]; exact e0) hr'.hd I3.nolimit hr'.depth un h2 (hbody _ _ s3 H2 Ew f c' hr2) h3
        obtain ⟨a1, a2, _⟩ := id pw
        show wpAny (model Z.prog Z.w) _ _ _ _ _
        rw [a1, a2]
        refine wpAny_call (codeAny_mono rl fun r s4 hq => ?_)
        cases r with
        | error e => exact tk e s4 (L2N.XE.of_call I3 (fun cls d H' he => hWW cls d H' he) (by show L2N.CX Z.prog Z.w _ _ _ _ _ _; rw [a1, a2]; exact hq))
        | ok fl =>
          cases fl with
          | ret u => exact I3.after (X := Z.nox.tr pn xe) (by show CE _ Z.prog Z.w _ _ _ _ _; rw [a1, a2]; exact hq)
          | next => exact False.elim hq
          | brk => exact False.elim hq
          | cont => exact False.elim hq
      exact (pss_one (ps_expr (pos := p3) pd)).run pins' sZ σZ HZ D IZ ⟨rfl, rfl, rfl⟩
    refine ⟨_, PSs.nox (pss_cons (ps_met (X := Z.nox) (i := 1) (x := "LineError") (n := "e") (c := .ref L) zs zf (by rw [← hZ]; rfl) (by rw [← hZ]; exact S.sc.nd) (by rw [← hZ]; rfl) (by rw [← hZ]; exact S.ve) (by rw [← hZ]; exact S.gl) (by rw [← hZ]; exact hl) (by decide) (by decide) (by decide)
      (fun W pn xe tk => body1 W pn xe tk)) (pss_one (ps_ret pe_non))), ?_⟩
    refine ⟨fun cls d H' he => ?_, rfl, hco, ?_⟩
    · rw [← hW] at he
      obtain ⟨e1, e2, e3⟩ := he
      exact ⟨by rw [← hZ]; exact e1, e2, e3⟩
    · exact hh
  refine wpAny_call (codeAny_mono rc fun r s2 hq => ?_)
  cases r with
  | error e => exact (show False from hq).elim
  | ok fl =>
    cases fl with
    | ret u => exact I1.after hq
    | next => exact False.elim hq
    | brk => exact False.elim hq
    | cont => exact False.elim hq
theorem metK {K : PySem.W.Frag} (hK : X.K = K) {T : TL} {L : Addr} {st : Stmt} {c P : Addr} {k : Nat} {params : Arguments} {body : Expr} {scope : Scope} {t : XK → TE} {p lpos pos : Pos} (F : Fn K X.mg "_law_met" st) (S : MetSt st)
    (hl : X.mg "LineError" = some (.ref L)) (hg : Gl X "_law_met")
    (TB : TabB X.base X.mg c P) (hcode : X.env.code = .ref c) (hmT : (P, X.env.qual ++ "<lambda>") ∈ T) (hu : ∀ p ∈ T, p.1 = P → p.2 = X.env.qual ++ "<lambda>") (hr : Room (k + 2) X.A) (Ls : LamS X.env.scope scope) (hdef : defaultsOf params X.env = ([], []))
    (hbind : ∀ (q : Str) (cl : List (Str × Addr)) (pm cv ctv : Value), bindArgs (PySem.W.kla_fn "<lambda>" q params body scope cl pm cv ctv) ⟨[], []⟩ = pure [])
    (hbody : ∀ (A : Around) (outer : List PySem.Env) (s : Shared) (H : Hp) (E : XK) (f c' : Addr), Room k (A.deeper (lamEnv X scope s.heap.objs.size f c')) → PE (lamN X A outer s H E scope f c') body (t E)) :
    PE X (.Call (.Name "_law_met" p) [.Lambda params body scope lpos] [] pos) (tMet K L T t) := by
  subst hK
  exact pe_met F S hl hg TB hcode hmT hu hr Ls hdef hbind hbody
/-! ### isinstance of such a thing -/
def rIsX (K : PySem.W.Frag) : List V → Hp → VK → Prop := fun xs H Q => ∃ (a D : Addr) (c : V) (cv : Value) (b : Bool), xs = [.ref a, c] ∧ H a = some (ExK (.ref D) a) ∧ ExcC K D ∧ (∀ u, RelV c u → u = cv) ∧ PySem.W.kitOne K (.ref D) cv = some b ∧ Q (.bl b) H
theorem call_isX : CallR X (.builtin "isinstance") (rIsX X.K) := by
  intro pins s σ H xs us Q I r h
  obtain ⟨a, D, c, cv, b, rfl, ha, C, hcv, e, q⟩ := h
  cases r with
  | cons rx rr =>
    cases rr with
    | cons rt rr =>
      cases rr
      cases rx
      have ec := hcv _ rt
      subst ec
      obtain ⟨⟨oe, fl, hget, hz, hd⟩, _, _⟩ := I.hok a _ ha
      have J : PySem.W.InstAt s.heap a oe D none := by
        obtain ⟨ocl, odi, oda, osl⟩ := oe
        obtain ⟨h1, h2⟩ := hz
        dsimp only at h1 h2 hd
        subst h1 h2 hd
        exact ⟨hget, rfl, rfl, trivial⟩
      exact PySem.W.kia_one (PySem.W.handS_kitx_exc C.hg C.hk C.hs C.hd C.ha C.hn C.ht C.hm) I.kIn J e (fun z => nomatch z) fun tk => ⟨.bl b, H, I.kept (t' := tk) fun _ _ z => z, rfl, q⟩
theorem isiXK {K : PySem.W.Frag} (h : X.K = K) : CallR X (.builtin "isinstance") (rIsX K) := by subst h; exact call_isX
end
/-! ### in data -/
/-- it is a kept exception of the class C -/
def kX (C : Addr) : Kn := ⟨fun o B => ∃ a, o = some (.ref a) ∧ B a = some (ExK (.ref C) a), fun e h => by
  obtain ⟨a, h1, h2⟩ := h
  exact ⟨a, h1, e _ _ h2⟩⟩
/-- te gives a kept exception of the class C -/
def EX (T : TL) (te : TE) (ρ : List Sl) (C : Addr) (ρ' : List Sl) : Prop :=
  ∀ F W B H σ (Q : VK), Env T F W B H σ ρ → (∀ a B' H', Ex B B' → Env T F W B' H' σ ρ' → B' a = some (ExK (.ref C) a) → Q (.ref a) H') → te σ H Q
section
variable {T : TL} {ρ ρ1 : List Sl} {K : PySem.W.Frag} {L C : Addr} {t : XK → TE}
theorem ex_met (hT : T ≠ []) (hC : PySem.W.exmOne K (.ref C) (.ref L) = some true) (h : ER T t ρ (.ex C)) : EX T (tMet K L T t) ρ C ρ := fun F W B H σ Q Ev k =>
  ⟨Ev.tb, fun H1 e t1 => h F W B H1 σ _ _ (Ev.ext hT e t1) fun B' H' e' E' => ⟨hC, rfl, fun a ha => by
    have g := Grow.new (o := ExK (.ref C) a) E'.bh ha (fun ps => exK_tbl ps)
    exact k a _ _ (e'.trans g.bb) (E'.grow g) upd_same⟩⟩
theorem ee_isX {c : V} {cv : Value} {b : Bool} {i : Nat} (h : ρ[i]? = some (.is (kX C))) (hc : ExcC K C) (hcv : ∀ u, RelV c u → u = cv) (hk : PySem.W.kitOne K (.ref C) cv = some b) :
    EE T (tCB (rIsX K) (tCons (tVar i) (tCons (tC c) tNil))) ρ (.bool b) ρ := fun F W B H σ Q E k => by
  obtain ⟨o, h1, a, h2, h3⟩ := E.sl i _ h
  subst h2
  exact ⟨_, h1, a, C, _, cv, b, rfl, E.bh _ _ h3, hc, hcv, hk, k _ B H (Ex.refl _) E (.bl b)⟩
end
end DL
/-! XcM: a list that gathers kept exceptions. -/
namespace DL
open PySem L2
open Evl (Ex)
/-- the name j holds the list at p; its things are kept exceptions of the classes Cs -/
structure Mad (T : TL) (F : Hp) (W : Addr → Prop) (B H : Hp) (σ : Sigma) (ρ : List Sl) (j : Nat) (p : Addr) (Cs : List Addr) : Prop where
  E : Env T F W B H σ ρ
  hB : B p = none
  hF : F p = none
  hn : NotOwn σ ρ p
  at_ : σ[j]? = some (some (.ref p))
  xs : ∃ as : List Addr, H p = some (.lst (as.map V.ref)) ∧ as.length = Cs.length ∧ ∀ (i : Nat) a, as[i]? = some a → ∃ C, Cs[i]? = some C ∧ B a = some (ExK (.ref C) a)
/-- a statement, such a list at hand -/
def SMo (T : TL) (X : XK) (t : TS) (ρ : List Sl) (j : Nat) (Cs : List Addr) (o : Out) : Prop := ∀ F W D B H σ p, Mad T F W B H σ ρ j p Cs → Post T X F W D B o → t D σ H
section
variable {T : TL} {X : XK} {ρ : List Sl} {K : PySem.W.Frag} {C : Addr} {Cs : List Addr} {tm : TE} {u : TS} {o : Out} {j : Nat}
theorem Env.setNo {F : Hp} {W : Addr → Prop} {B H : Hp} {σ : Sigma} {v : Option V} (E : Env T F W B H σ ρ) (hj : ρ[j]? = some .no) : Env T F W B H (σ.set j v) ρ where
  fh := E.fh
  bh := E.bh
  wf := E.wf
  wb := E.wb
  tb := E.tb
  ft := E.ft
  bt := E.bt
  ln := by rw [List.length_set]; exact E.ln
  sl := fun i s hs => by
    by_cases e : j = i
    · subst e
      rw [hj] at hs
      cases hs
      have hl : j < σ.length := by rw [E.ln]; exact (List.getElem?_eq_some_iff.mp hj).1
      exact ⟨v, List.getElem?_set_self hl, trivial⟩
    · rw [List.getElem?_set_ne e]
      exact E.sl i s hs
  ne := fun a b p q q' ds es hab ha hb => by
    have na : j ≠ a := fun z => by subst z; rw [hj] at ha; cases ha
    have nb : j ≠ b := fun z => by subst z; rw [hj] at hb; cases hb
    rw [List.getElem?_set_ne na, List.getElem?_set_ne nb]
    exact E.ne a b p q q' ds es hab ha hb
/-- made = [e], and on -/
theorem ss_made (h : EX T tm ρ C ρ) (hj : ρ[j]? = some .no) (hu : SMo T X u ρ j [C] o) : SS T X (tSeq (tAsg (tLst (tCons tm tNil)) (gName j)) u) ρ o := fun F W D B H σ Ev k =>
  h F W B H σ _ Ev fun a B1 H1 e1 E1 hBa => by
    refine ⟨by show 1 ≤ sizeLine; decide, fun p hp => ?_⟩
    have g := Grow.junk (o := .lst [.ref a]) E1.bh hp
    have E2 := (E1.grow g).setNo (v := some (.ref p)) hj
    have hjl : j < σ.length := by rw [E1.ln]; exact (List.getElem?_eq_some_iff.mp hj).1
    refine hu F W D B1 _ _ p ⟨E2, Evl.fresh_back E1.bh hp, Evl.fresh_back E1.fh hp, fun i qa ds hi hσ => ?_, List.getElem?_set_self hjl, [a], upd_same, rfl, fun i b hb => ?_⟩ (k.le e1)
    · have ne : j ≠ i := fun z => by subst z; rw [hj] at hi; cases hi
      rw [List.getElem?_set_ne ne] at hσ
      exact E1.notOwn hp i qa ds hi hσ
    · cases i with
      | zero => cases hb; exact ⟨C, rfl, hBa⟩
      | succ i => simp at hb
/-- made.append(e), and on -/
theorem smo_app (hl : Cs.length < 1000) (h : EX T tm ρ C ρ) (hu : SMo T X u ρ j (Cs ++ [C]) o) : SMo T X (tSeq (tDrop (tBM K "list" rAppend (tVar j) (tCons tm tNil))) u) ρ j Cs o := fun F W D B H σ p M k => by
  obtain ⟨as, hp, hlen, hall⟩ := M.xs
  refine ⟨_, M.at_, .inl ⟨rfl, _, SqL.of hp⟩, h _ _ B H σ _ (M.E.hide M.hB hp M.hn) fun a B1 H1 e1 E1 hBa => ?_⟩
  obtain ⟨E2, f1, f2, f3⟩ := Env.unhide M.hF E1 M.E.wf M.E.ft
  refine ⟨p, _, .ref a, rfl, rfl, f2, by rw [List.length_map, hlen]; exact sz_lt (by omega), ?_⟩
  refine hu F W D B1 _ σ p ⟨E2.other f1 M.hF f2 f3, f1, M.hF, f3, M.at_, as ++ [a], by rw [upd_same, List.map_append]; rfl, by rw [List.length_append, List.length_append, hlen]; rfl, fun i b hb => ?_⟩ (k.le e1)
  by_cases hi : i < as.length
  · rw [List.getElem?_append_left hi] at hb
    obtain ⟨D', q1, q2⟩ := hall i b hb
    exact ⟨D', by rw [List.getElem?_append_left (by omega)]; exact q1, e1 _ _ q2⟩
  · have hi2 : i = as.length := by
      have := (List.getElem?_eq_some_iff.mp hb).1
      rw [List.length_append, List.length_singleton] at this
      omega
    subst hi2
    rw [List.getElem?_append_right (Nat.le_refl _), Nat.sub_self] at hb
    cases hb
    exact ⟨C, by rw [hlen, List.getElem?_append_right (Nat.le_refl _), Nat.sub_self]; rfl, hBa⟩
end
/-- _law_alone(e, own): e of the class whose place is own -/
def spA (xa : Str → Addr) : Sp := fun vs H Q _ => ∃ B a x, vs = [.ref a, .int (kinds.idxOf x : Nat)] ∧ Ex B H ∧ (∀ p ps, B p ≠ some (.tbl ps)) ∧ x ∈ kinds ∧ B a = some (ExK (.ref (xa x)) a) ∧ ∀ B' H', Grow B H B' H' → Q (.bl true) H'
theorem wipe2_set (σ : Sigma) {i j : Nat} (hij : i ≠ j) (x y : V) : wipe (((wipe σ [i, j]).set i (some x)).set j (some y)) [i, j] = wipe σ [i, j] := by
  show (((((σ.set j none).set i none).set i (some x)).set j (some y)).set j none).set i none = (σ.set j none).set i none
  rw [List.set_set, List.set_set, List.set_comm _ _ hij, List.set_set, List.set_set]
theorem kinds_nodup : kinds.Nodup := by decide +kernel
theorem kinds_idx : ∀ (n : Nat) (h : n < kinds.length), kinds.idxOf kinds[n] = n := by decide +kernel
theorem kinds_len : kinds.length = 15 := by decide +kernel
section
variable {T : TL} {X E : XK} {ρ : List Sl} {K : PySem.W.Frag} {t : TS} {i j k : Nat} {xa : Str → Addr}
/-- if not all([_law_alone(e, at) for at, e in enumerate(made)]): .. -/
theorem smo_last (hij : i ≠ k) (hi : i < ρ.length) (hk : k < ρ.length) :
    SMo T X (tIfS (tNot (tB (tCB (rAll K) (tCons (tLc (iEnum K (tCons (tVar j) tNil)) (gTup K 2 (gCons (gName i) (gCons (gName k) gNil))) tYes (tCall (spA xa) [] E (tCons (tVar k) (tCons (tVar i) tNil))) [i, k]) tNil)))) t tNext) ρ j (kinds.map xa) (.nx (List.replicate ρ.length .no)) := fun F W D B H σ p M post => by
  obtain ⟨as, hp, hlen, hall⟩ := M.xs
  rw [List.length_map] at hlen
  generalize hte : tCall (spA xa) [] E (tCons (tVar k) (tCons (tVar i) tNil)) = te
  have E0 := M.E.weak (Weaker.all (ρ := ρ) rfl)
  have noOwn : ∀ q : Addr, NotOwn σ (List.replicate ρ.length Sl.no) q := fun q a qa ds ha => by
    rw [List.getElem?_replicate] at ha
    split at ha <;> cases ha
  refine ⟨_, M.at_, p, as.map V.ref, rfl, SqL.of hp, fun L hL => ?_⟩
  have pL : p ≠ L := ne_of_none hp hL
  refine ⟨fun n m H' => m = as.length - n ∧ n ≤ as.length ∧ ∃ B', Ex B B' ∧ Env T F W B' H' σ (List.replicate ρ.length .no) ∧ H' p = some (.lst (as.map V.ref)) ∧ B' L = none ∧ F L = none ∧ H' L = some (.lst ((List.replicate n true).map V.bl)), ⟨as.length, by simp, Nat.zero_le _, B, Ex.refl _, E0.grow (Grow.junk E0.bh hL), by rw [upd_ne pL]; exact hp, Evl.fresh_back E0.bh hL, Evl.fresh_back E0.fh hL, upd_same⟩, ?_⟩
  rintro n m H' ⟨rfl, hn, B', eB, E', h1, h2, h3, h4⟩
  by_cases hlt : n < as.length
  · have hxs : (as.map V.ref)[n]? = some (.ref as[n]) := by rw [List.getElem?_map, List.getElem?_eq_getElem hlt]; rfl
    refine .inr ⟨⟨_, _, SqL.of h1, hxs⟩, fun H' => ∃ B', Ex B B' ∧ Env T F W B' H' σ (List.replicate ρ.length .no) ∧ H' p = some (.lst (as.map V.ref)) ∧ B' L = none ∧ F L = none ∧ H' L = some (.lst ((List.replicate (n + 1) true).map V.bl)), fun H2 q => ⟨as.length - (n + 1), by omega, rfl, hlt, q⟩, fun x H2 y => ?_⟩
    obtain ⟨Tn, x', rfl, hTn, rfl, y⟩ := y
    have hx' : x' = .ref as[n] := by
      have := y _ (SqL.of h1)
      rw [hxs] at this
      exact (Option.some.inj this).symm
    subst hx'
    refine ⟨Tn, _, rfl, SqT.of upd_same, rfl, _, _, rfl, _, _, rfl, rfl, wipe2_set σ hij _ _, ?_⟩
    show te _ _ _
    rw [← hte]
    obtain ⟨C, q1, q2⟩ := hall n as[n] (List.getElem?_eq_getElem hlt)
    have hnk : n < kinds.length := by omega
    have hk15 := kinds_len
    have hC : C = xa kinds[n] := by
      rw [List.getElem?_map, List.getElem?_eq_getElem hnk] at q1
      exact (Option.some.inj q1).symm
    subst hC
    have gT := Grow.junk (o := .tup [.int (n : Nat), .ref as[n]]) E'.bh hTn
    have E2 := E'.grow gT
    have hil : i < (((wipe σ [i, k]).set i (some (V.int (n : Nat)))).set k (some (V.ref as[n]))).length := by rw [List.length_set, List.length_set, wipe_length, E'.ln, List.length_replicate]; exact hi
    have hkl : k < ((wipe σ [i, k]).set i (some (V.int (n : Nat)))).length := by rw [List.length_set, wipe_length, E'.ln, List.length_replicate]; exact hk
    refine ⟨_, List.getElem?_set_self hkl, _, by rw [List.getElem?_set_ne (Ne.symm hij)]; exact List.getElem?_set_self (by rw [wipe_length, E'.ln, List.length_replicate]; exact hi), ?_⟩
    refine ⟨B', as[n], kinds[n], ?_, E2.bh, E2.bt, List.getElem_mem _, eB _ _ q2, fun B3 H3 g3 => ?_⟩
    · rw [kinds_idx n hnk]; rfl
    · have E3 := E2.grow g3
      have LT : L ≠ Tn := ne_of_none h4 hTn
      have pT : p ≠ Tn := ne_of_none h1 hTn
      have a1 : H3 L = some (.lst ((List.replicate n true).map V.bl)) := g3.hh _ _ (by rw [upd_ne LT]; exact h4)
      have a2 : H3 p = some (.lst (as.map V.ref)) := g3.hh _ _ (by rw [upd_ne pT]; exact h1)
      have a3 : B3 L = none := g3.nb L h2 (by rw [upd_ne LT, h4]; exact fun z => by cases z)
      refine ⟨_, a1, by rw [List.length_map, List.length_replicate]; exact sz_lt (by omega), B3, eB.trans g3.bb, E3.other a3 h3 a1 (noOwn L), by rw [upd_ne pL]; exact a2, a3, h3, ?_⟩
      rw [upd_same, List.replicate_succ', List.map_append]
      rfl
  · have en : n = as.length := by omega
    subst en
    refine .inl ⟨⟨_, SqL.of h1, by rw [List.length_map]; exact Nat.le_refl _⟩, L, List.replicate as.length true, rfl, SqL.of h4, _, rfl, ?_⟩
    have hall' : (List.replicate as.length true).all id = true := by
      rw [List.all_eq_true]
      intro b hb
      exact (List.mem_replicate.mp hb).2
    rw [hall']
    exact post σ B' H' eB E'
end
end DL
/-! K21: the plain part of the law of exceptions. -/
namespace DL
open PySem PyProof.Rows L2
open Evl (Ex)
theorem start_x {N : List Str} {a C : Addr} {i : Int} {B H : Hp} (hN : 2 ≤ N.length) (hB : Ex B H) (hb : ∀ p ps, B p ≠ some (.tbl ps)) (ha : B a = some (ExK (.ref C) a)) : Env [] H (fun p => H p ≠ none ∧ B p = none) B H (L2.start N [.ref a, .int i]) (.is (kX C) :: .dat (.int i) :: List.replicate (N.length - 2) .no) where
  fh := Ex.refl _
  bh := hB
  wf := fun p hp => hp.1
  wb := fun p hp => hp.2
  tb := fun p hp => by cases hp
  ft := fun h => absurd rfl h
  bt := hb
  ln := by unfold L2.start; simp
  sl := fun n s hs => by
    cases n with
    | zero => cases hs; exact ⟨some (.ref a), rfl, a, rfl, ha⟩
    | succ n =>
      cases n with
      | zero => cases hs; exact ⟨some (.int i), rfl, .int i, rfl, .int i⟩
      | succ n =>
        rw [List.getElem?_cons_succ, List.getElem?_cons_succ, List.getElem?_replicate] at hs
        split at hs
        · rename_i hi
          cases hs
          exact ⟨none, by unfold L2.start; simp [hi], trivial⟩
        · cases hs
  ne := fun n m p q q' ds es hij hi => by
    cases n with
    | zero => cases hi
    | succ n =>
      cases n with
      | zero => cases hi
      | succ n =>
        rw [List.getElem?_cons_succ, List.getElem?_cons_succ, List.getElem?_replicate] at hi
        split at hi <;> cases hi
theorem ss_x {N : List Str} {a C : Addr} {i : Int} {B H : Hp} {E : XK} {Q : VK} {t : TS} {ρ' : List Sl} (hN : 2 ≤ N.length) (hB : Ex B H) (hb : ∀ p ps, B p ≠ some (.tbl ps)) (ha : B a = some (ExK (.ref C) a)) (k : ∀ B' H', Grow B H B' H' → Q (.bl true) H')
    (key : SS [] E t (.is (kX C) :: .dat (.int i) :: List.replicate (N.length - 2) .no) (.rt (.bool true) ρ')) : t { nx := fun _ H' => Q .non H', rt := Q } (L2.start N [.ref a, .int i]) H :=
  key H _ _ B H _ (start_x hN hB hb ha) fun v σ' B' H' e E' q => by
    rw [q.inv_bl]
    exact k B' H' (end_grow e E')
theorem cp_foldl (a : Array Nat) : ∀ (n : Nat) (b : Array Nat), ((List.replicate n a).foldl (· ++ ·) b).toList = b.toList ++ (List.replicate n a.toList).flatten
  | 0, b => by simp
  | n + 1, b => by
    rw [List.replicate_succ, List.foldl_cons, cp_foldl a n (b ++ a), List.replicate_succ, List.flatten_cons, Array.toList_append, List.append_assoc]
theorem flat_len {α : Type} (l : List α) : ∀ n : Nat, (List.replicate n l).flatten.length = n * l.length
  | 0 => by simp
  | n + 1 => by rw [List.replicate_succ, List.flatten_cons, List.length_append, flat_len l n, Nat.succ_mul]; omega
/-- a text so many times -/
def timesS (a : Str) (n : Nat) : Str := ⟨(List.replicate n a.cps).foldl (· ++ ·) #[]⟩
theorem timesS_len (a : Str) (n : Nat) : (timesS a n).length = n * a.length := by
  show ((List.replicate n a.cps).foldl (· ++ ·) #[]).size = n * a.cps.size
  rw [← Array.length_toList, cp_foldl, List.length_append, flat_len, Array.length_toList]
  simp
def rMulS : R2 := fun x y H Q => ∃ a n, x = V.str a ∧ y = V.int n ∧ 1 ≤ a.length ∧ a.length ≤ 1000 ∧ 2 ≤ n ∧ n ≤ 1000 ∧ Q (.str (timesS a n.toNat)) H
theorem op_mulS {X : Cx} : OpR X (binaryOp .Mult) rMulS := by
  intro pins s σ H x y v u Q I rx ry h
  obtain ⟨a, n, rfl, rfl, h1, h2, h3, h4, q⟩ := h
  obtain ⟨t, rfl⟩ := rx
  obtain ⟨t', rfl⟩ := ry
  have e0 : (n == 1 || a.length == 0) = false := by
    rw [Bool.or_eq_false_iff]
    exact ⟨beq_eq_false_iff_ne.mpr (by omega), beq_eq_false_iff_ne.mpr (by omega)⟩
  refine P.mul_str ?_ (fun _ _ => ?_) (fun _ _ => ?_) ?_
  · rw [Bool.or_eq_false_iff]
    exact ⟨decide_eq_false (by omega), decide_eq_false (by omega)⟩
  · have : (1000 : Int) ≤ (2 ^ 63 - 1) / n := by
      rw [Int.le_ediv_iff_mul_le (by omega)]
      omega
    omega
  · have : a.length * n.toNat ≤ 1000 * 1000 := Nat.mul_le_mul h2 (by omega)
    have hs : sizeLine = 16777216 := sizeLine_eq
    unfold Builtin.Str.tooLong
    rw [hs]
    exact decide_eq_false (by omega)
  · rw [if_neg (by omega), if_neg (by rw [e0]; decide)]
    refine ⟨?_, .str (timesS a n.toNat), H, I.tok _, ⟨_, rfl⟩, q⟩
    have hl := timesS_len a n.toNat
    have : n.toNat * a.length ≤ 1000 * 1000 := Nat.mul_le_mul (by omega) h2
    have hs : sizeLine = 16777216 := sizeLine_eq
    show (timesS a n.toNat).length ≤ sizeLine
    rw [hl, hs]
    omega
theorem re_mulS {a : Str} {n : Int} (h1 : 1 ≤ a.length) (h2 : a.length ≤ 1000) (h3 : 2 ≤ n) (h4 : n ≤ 1000) : RE rMulS (.str a) (.int n) (.str (timesS a n.toNat)) := fun B H vx vy Q e bt q1 q2 k => by
  have e1 := q1.inv_str; have e2 := q2.inv_int
  subst e1 e2
  exact ⟨a, n, rfl, rfl, h1, h2, h3, h4, k _ B H (Grow.refl e) (.str _)⟩
end DL
namespace U
open PySem L2 DL
theorem alone_ok : ∀ x ∈ kinds, PyData.eqv (.list ((kinds.map fun y => y == x).map PyData.bool)) (.list (((ri 0 (15 : Int).toNat).map fun (at_ : Int) => decide (at_ = ((kinds.idxOf x : Nat) : Int))).map PyData.bool)) = true ∧ SeqAt.shaped (.list ((kinds.map fun y => y == x).map PyData.bool)) = true ∧ SeqAt.shaped (.list (((ri 0 (15 : Int).toNat).map fun (at_ : Int) => decide (at_ = ((kinds.idxOf x : Nat) : Int))).map PyData.bool)) = true := by decide +kernel
/-- the text of so many dashes is no web -/
theorem cp_dash (n : Nat) : cp (timesS "-" n) = List.replicate n 45 := by
  have e : (("-" : Str).cps).toList = [45] := by decide +kernel
  show ((List.replicate n ("-" : Str).cps).foldl (· ++ ·) #[]).toList = _
  rw [cp_foldl, e]
  show [] ++ (List.replicate n [45]).flatten = _
  rw [List.nil_append]
  induction n with
  | zero => rfl
  | succ n ih => rw [List.replicate_succ, List.flatten_cons, ih, List.replicate_succ]; rfl
theorem parse_dash (xa : XA) {n : Nat} (h : 2 ≤ n) : parseR xa (.str (timesS "-" n)) = .ex (xa "InvalidText") := by
  have hc := cp_dash n
  have hp : parseL (cp (timesS "-" n)) = none := by
    rw [hc]
    obtain ⟨w, ws, e1, e2⟩ := spW_eq (List.replicate n 45)
    have hws : ws = [] := by
      cases ws with
      | nil => rfl
      | cons q r =>
        have : (32 : Nat) ∈ List.replicate n 45 := by rw [e2]; simp
        have := (List.mem_replicate.mp this).2
        omega
    subst hws
    simp only [List.map_nil, List.flatten_nil, List.append_nil] at e2
    have hd : dig w = none := by
      cases hdw : dig w with
      | none => rfl
      | some m =>
        have := (dig_eq hdw).2
        rw [← e2] at this
        have := congrArg List.length this
        rw [List.length_replicate, List.length_singleton] at this
        omega
    unfold parseL
    rw [e1]
    simp only [hd]
  unfold parseR
  simp only [hp]
/-- the web of the law, its desk -/
def w3 : Wb := (3, [(0, 1), (1, 2)])
def s3 : Dk := ⟨w3, [some 0, some 1, none], [[none, none, none], [some 0, none, none]], []⟩
def s2 : Dk := ⟨w3, [some 0, none, none], [[none, none, none]], []⟩
def s1 : Dk := ⟨w3, [none, none, none], [], []⟩
theorem w3_ok : okW w3 = true ∧ topW w3 = 2 ∧ webB (eW w3) = true := by decide +kernel
theorem w3_small : smallW (eW w3) := smallW_eW (by decide)
theorem s_ok1 : DkOk s1 1000 := ⟨w3_ok.1, by decide, (fun _ h => by cases h), (fun _ h => by cases h), by decide⟩
theorem s_ok2 : DkOk s2 1000 := ⟨w3_ok.1, by decide, by decide, (fun _ h => by cases h), by decide⟩
theorem s_ok3 : DkOk s3 1000 := ⟨w3_ok.1, by decide, by decide, (fun _ h => by cases h), by decide⟩
theorem puts1 : putO s1 (.int 0) (.int 0) = .inr (.int 1, s2) := rfl
theorem puts2 : putO s2 (.int 1) (.int 1) = .inr (.int 2, s3) := rfl
theorem puts3 : putO s3 (.int 0) (.int 2) = .inl "AlreadyThere" ∧ putO s3 (.int 2) (.int 0) = .inl "Taken" ∧ putO s3 (.int 2) (.int 2) = .inl "Equal" ∧ takeO s3 (.int 2) = .inl "NotThere" ∧ redoO s3 = .inl "NothingToUndo" := ⟨rfl, rfl, rfl, rfl, rfl⟩
theorem big_fits {n : Int} (h : 21 ≤ n) : fitsB w3 (topW w3) (eT [n, n, n]) = false ∧ unlikeB (eT [n]) w3.1 (topW w3) = false ∧ wholeB (.int n) 0 (w3.1 - 1) = false ∧ wholeB (.int n) 0 20 = false ∧ pairB (eP (0, n)) (2 * topW w3) = false ∧ okW (n, []) = false ∧ okW (1 + n % 6, []) = true := by
  have ht : topW w3 = 2 := w3_ok.2.1
  rw [ht]
  refine ⟨?_, ?_, ?_, ?_, ?_, ?_, ?_⟩
  · rw [fitsB_eT]
    unfold fitsN unlikeN rangeB
    have : decide (n ≤ 2) = false := decide_eq_false (by omega)
    simp [this]
  · rw [unlikeB_eT]
    unfold unlikeN rangeB
    have : decide (n ≤ 2) = false := decide_eq_false (by omega)
    simp [this]
  · show wholeB (.int n) 0 (3 - 1) = false
    unfold wholeB
    simp
    omega
  · unfold wholeB
    simp
    omega
  · unfold pairB
    simp
    omega
  · unfold okW
    have : decide (n ≤ 6) = false := decide_eq_false (by omega)
    simp [this]
  · unfold okW
    have h1 : decide (1 ≤ 1 + n % 6) = true := decide_eq_true (by omega)
    have h2 : decide (1 + n % 6 ≤ 6) = true := decide_eq_true (by omega)
    simp only [h1, h2]
    rfl
theorem w3_nums : fitsB w3 (topW w3) (eT [0, 2, 1]) = true ∧ fitsB w3 (topW w3) (eT [0, 1, 2]) = true ∧ differN w3 [0, 1, 2] = false ∧ wholeB (.int 0) 0 (2 * topW w3) = true := by decide +kernel
theorem pairs6 : okW (6, pairsN 6) = true ∧ 9 < topW (6, pairsN 6) := by decide +kernel
end U
namespace U
open PySem L2 PyProof.Rows DL
open Evl (Ex)
open LamX (lamS_by)
section
variable {P : Program} {w : World} {K : PySem.W.Frag} {mg : Str → Option Value} {base : Heap} {xa : Str → Addr} {Cd cd Pd Pt : Addr}
abbrev s_law_alone : Stmt := topS 75
theorem sc_law_alone : FnScope ["e", "own", "some", "at"] ["e", "own"] (defScope s_law_alone) := ⟨rfl, rfl, rfl, by decide +kernel, rfl, by decide +kernel, by decide +kernel⟩
theorem bd_law_alone : BindsAs "_law_alone" s_law_alone ["e", "own"] := fun _ _ _ _ _ _ us hl => match us, hl with | [_, _], _ => rfl

theorem ok_law_alone (F : Fn K mg "_law_alone" s_law_alone) (B : Bt mg) (gx : ∀ y ∈ kinds, mg y = some (.ref (xa y))) (tts : ∀ x ∈ kinds, Tt K xa x) : Cal P w K mg base 1 "_law_alone" ["e", "own"] (spA xa) := by
  obtain ⟨f, fd, Fu, hm⟩ := F.ex
  refine ⟨f, fd, Fu.okN sc_law_alone (fun vs H Q E h => ?_) (fun cdv A outer s H vs Q E hr h => ?_), hm, Fu.kp, Fu.binds bd_law_alone⟩
  · obtain ⟨B, a, x, rfl, _⟩ := h
    rfl
  refine ⟨_, PSs.nox (pss_cons (ps_set (i := 2) sc_law_alone.nd rfl (Or.inl rfl) (pe_lst (pa_cons (pe_callB (isiXK (K := K) rfl) (by rfl) B.isinstance bb_isinstance (pa_cons (pv 0) (pa_cons (pe_glob (v := .ref (xa "InvalidWeb")) (by rfl) (gx "InvalidWeb" (by decide)) rfl) pa_nil))) (pa_cons (pe_callB (isiXK (K := K) rfl) (by rfl) B.isinstance bb_isinstance (pa_cons (pv 0) (pa_cons (pe_glob (v := .ref (xa "InvalidNumbering")) (by rfl) (gx "InvalidNumbering" (by decide)) rfl) pa_nil))) (pa_cons (pe_callB (isiXK (K := K) rfl) (by rfl) B.isinstance bb_isinstance (pa_cons (pv 0) (pa_cons (pe_glob (v := .ref (xa "InvalidPlace")) (by rfl) (gx "InvalidPlace" (by decide)) rfl) pa_nil))) pa_nil)))))
      (pss_cons (ps_set (i := 2) sc_law_alone.nd rfl (Or.inl rfl) (pe_op op_cat (pv 2) (pe_lst (pa_cons (pe_callB (isiXK (K := K) rfl) (by rfl) B.isinstance bb_isinstance (pa_cons (pv 0) (pa_cons (pe_glob (v := .ref (xa "InvalidBegun")) (by rfl) (gx "InvalidBegun" (by decide)) rfl) pa_nil))) (pa_cons (pe_callB (isiXK (K := K) rfl) (by rfl) B.isinstance bb_isinstance (pa_cons (pv 0) (pa_cons (pe_glob (v := .ref (xa "InvalidNumber")) (by rfl) (gx "InvalidNumber" (by decide)) rfl) pa_nil))) (pa_cons (pe_callB (isiXK (K := K) rfl) (by rfl) B.isinstance bb_isinstance (pa_cons (pv 0) (pa_cons (pe_glob (v := .ref (xa "InvalidPair")) (by rfl) (gx "InvalidPair" (by decide)) rfl) pa_nil))) pa_nil))))))
      (pss_cons (ps_set (i := 2) sc_law_alone.nd rfl (Or.inl rfl) (pe_op op_cat (pv 2) (pe_lst (pa_cons (pe_callB (isiXK (K := K) rfl) (by rfl) B.isinstance bb_isinstance (pa_cons (pv 0) (pa_cons (pe_glob (v := .ref (xa "InvalidText")) (by rfl) (gx "InvalidText" (by decide)) rfl) pa_nil))) (pa_cons (pe_callB (isiXK (K := K) rfl) (by rfl) B.isinstance bb_isinstance (pa_cons (pv 0) (pa_cons (pe_glob (v := .ref (xa "NotGood")) (by rfl) (gx "NotGood" (by decide)) rfl) pa_nil))) (pa_cons (pe_callB (isiXK (K := K) rfl) (by rfl) B.isinstance bb_isinstance (pa_cons (pv 0) (pa_cons (pe_glob (v := .ref (xa "NoLines")) (by rfl) (gx "NoLines" (by decide)) rfl) pa_nil))) pa_nil))))))
      (pss_cons (ps_set (i := 2) sc_law_alone.nd rfl (Or.inl rfl) (pe_op op_cat (pv 2) (pe_lst (pa_cons (pe_callB (isiXK (K := K) rfl) (by rfl) B.isinstance bb_isinstance (pa_cons (pv 0) (pa_cons (pe_glob (v := .ref (xa "TooMany")) (by rfl) (gx "TooMany" (by decide)) rfl) pa_nil))) (pa_cons (pe_callB (isiXK (K := K) rfl) (by rfl) B.isinstance bb_isinstance (pa_cons (pv 0) (pa_cons (pe_glob (v := .ref (xa "AlreadyThere")) (by rfl) (gx "AlreadyThere" (by decide)) rfl) pa_nil))) (pa_cons (pe_callB (isiXK (K := K) rfl) (by rfl) B.isinstance bb_isinstance (pa_cons (pv 0) (pa_cons (pe_glob (v := .ref (xa "Taken")) (by rfl) (gx "Taken" (by decide)) rfl) pa_nil))) pa_nil))))))
      (pss_cons (ps_set (i := 2) sc_law_alone.nd rfl (Or.inl rfl) (pe_op op_cat (pv 2) (pe_lst (pa_cons (pe_callB (isiXK (K := K) rfl) (by rfl) B.isinstance bb_isinstance (pa_cons (pv 0) (pa_cons (pe_glob (v := .ref (xa "Equal")) (by rfl) (gx "Equal" (by decide)) rfl) pa_nil))) (pa_cons (pe_callB (isiXK (K := K) rfl) (by rfl) B.isinstance bb_isinstance (pa_cons (pv 0) (pa_cons (pe_glob (v := .ref (xa "NotThere")) (by rfl) (gx "NotThere" (by decide)) rfl) pa_nil))) (pa_cons (pe_callB (isiXK (K := K) rfl) (by rfl) B.isinstance bb_isinstance (pa_cons (pv 0) (pa_cons (pe_glob (v := .ref (xa "NothingToUndo")) (by rfl) (gx "NothingToUndo" (by decide)) rfl) pa_nil))) pa_nil))))))
      (pss_one (ps_ret (pe_and (pe_callB (isiXK (K := K) rfl) (by rfl) B.isinstance bb_isinstance (pa_cons (pv 0) (pa_cons (pe_bltn (v := .ty "ValueError") (by rfl) B.valueError bb_ve rfl) pa_nil))) (pe_one (pe_cmpR (eqDK (K := K) rfl (hu64 hr)) (pv 2) (pe_lc (own := [("at", 3)]) (g := (gName 3)) (tt := tYes) rfl sc_law_alone.nd (pi_range1 (by rfl) B.range (pa_cons pe_int pa_nil)) (blkOk_by (own := [("at", 3)]) (N := ["e", "own", "some", "at"]) (sc := defScope s_law_alone) (by decide +kernel)) (fun _ _ _ _ _ => (pg_name (i := 3) sc_law_alone.nd rfl (Or.inl rfl))) (fun _ _ _ _ _ => pts_nil) (fun _ _ _ _ _ => (pe_cmpR op_eq (pv 3) (pv 1) (nomark _)))) (nomark _))))))))))), ?_⟩
  obtain ⟨B0, a, x, rfl, hB, hb, hx, ha, k⟩ := h
  have tt := tts x hx
  obtain ⟨k1, k2, k3⟩ := alone_ok x hx
  have I : ∀ (y : Str) (T : TL) (ρ : List Sl), y ∈ kinds → ρ[0]? = some (.is (kX (xa x))) → EE T (tCB (rIsX K) (tCons (tVar 0) (tCons (tC (.ref (xa y))) tNil))) ρ (.bool (y == x)) ρ := fun y T ρ hy h => ee_isX h tt.ec (fun u h => h) (tt.is y hy)
  refine ss_x (E := E) (N := ["e", "own", "some", "at"]) (by decide) hB hb ha k (ρ' := [.is (kX (xa x)), .dat (.int (kinds.idxOf x : Nat)), .dat (.list ((kinds.map fun y => y == x).map PyData.bool)), .no]) ?_
  refine ss_seq (ss_set (el_lst (ea_3 (I _ _ _ (by decide) rfl) (I _ _ _ (by decide) rfl) (I _ _ _ (by decide) rfl)) (by simp)).ee) ?_
  refine ss_seq (ss_set (el_op (ee_var rfl) (el_lst (ea_3 (I _ _ _ (by decide) rfl) (I _ _ _ (by decide) rfl) (I _ _ _ (by decide) rfl)) (by simp)).ee (rel_cat (by simp))).ee) ?_
  refine ss_seq (ss_set (el_op (ee_var rfl) (el_lst (ea_3 (I _ _ _ (by decide) rfl) (I _ _ _ (by decide) rfl) (I _ _ _ (by decide) rfl)) (by simp)).ee (rel_cat (by simp))).ee) ?_
  refine ss_seq (ss_set (el_op (ee_var rfl) (el_lst (ea_3 (I _ _ _ (by decide) rfl) (I _ _ _ (by decide) rfl) (I _ _ _ (by decide) rfl)) (by simp)).ee (rel_cat (by simp))).ee) ?_
  refine ss_seq (ss_set (el_op (ee_var rfl) (el_lst (ea_3 (I _ _ _ (by decide) rfl) (I _ _ _ (by decide) rfl) (I _ _ _ (by decide) rfl)) (by simp)).ee (rel_cat (by simp))).ee) ?_
  show SS [] E _ [.is (kX (xa x)), .dat (.int (kinds.idxOf x : Nat)), .dat (.list ((kinds.map fun y => y == x).map PyData.bool)), .no] _
  refine ss_ret (ee_andT (ee_isX (i := 0) rfl tt.ec (fun u h => h) tt.ve) (EE.is (ee_op (ee_var rfl) (el_lcR1p (n := 15) (es := ((ri 0 (15 : Int).toNat).map fun (at_ : Int) => decide (at_ = ((kinds.idxOf x : Nat) : Int))).map PyData.bool) (ea_1 ee_int) (by decide) (lcr_bools PyData.int (fun (at_ : Int) => decide (at_ = ((kinds.idxOf x : Nat) : Int))) _ fun at_ _ => lc1m (by intro _ _ h; cases h) (ee_op (ee_var rfl) (ee_var rfl) re_eqI)) (by simp [ri])).ee (re_eqD k2 k3)) (by rw [k1])))

end
end U
namespace U
open PySem L2 PyProof.Rows DL
open Evl (Ex)
open LamX (lamS_by)
section
variable {P : Program} {w : World} {K : PySem.W.Frag} {mg : Str → Option Value} {base : Heap} {xa : Str → Addr} {Cd cd Pd Pt : Addr}
abbrev s_law_met : Stmt := topS 74
theorem sc_law_met : FnScope ["deed", "e"] ["deed"] (defScope s_law_met) := ⟨rfl, rfl, rfl, by decide +kernel, rfl, by decide +kernel, by decide +kernel⟩
theorem bd_law_met : BindsAs "_law_met" s_law_met ["deed"] := fun _ _ _ _ _ _ us hl => match us, hl with | [_], _ => rfl

theorem st_met : MetSt s_law_met := ⟨⟨_, _, _, _, _, _, _, _, _, _, _, rfl⟩, sc_law_met, bd_law_met, by decide +kernel, by decide +kernel, by decide +kernel⟩

end
end U
namespace U
open PySem L2 PyProof.Rows DL
open Evl (Ex)
open LamX (lamS_by)
section
variable {P : Program} {w : World} {K : PySem.W.Frag} {mg : Str → Option Value} {base : Heap} {xa : Str → Addr} {Cd cd Pd Pt : Addr}
abbrev s_law : Stmt := topS 76
theorem sc_law : FnScope ["script", "dice", "more", "one", "two", "made", "at", "e"] ["script"] (defScope s_law) := ⟨rfl, rfl, rfl, by decide +kernel, rfl, by decide +kernel, by decide +kernel⟩
theorem bd_law : BindsAs "law" s_law ["script"] := fun _ _ _ _ _ _ us hl => match us, hl with | [_], _ => rfl

theorem ok_law {f c Pt : Addr} {oc : Value} {od an : Option Addr} {kV doc pm ct : Value} {osl : Array (Option Value)} (lk : K.lookup f = some ⟨oc, od, .func (PySem.W.fnOf "law" "law" (defArgs s_law) (defBody s_law) (defScope s_law) .none kV doc pm an (.ref c) ct), osl⟩) (hcd : PySem.W.codeIn K (.ref c) "law" = true) (B : Bt mg) (F_met : Fn K mg "_law_met" s_law_met) (hl : mg "LineError" = some (.ref (xa "LineError"))) (TB : LamX.TabB base mg c Pt) (tt_InvalidWeb : Tt K xa "InvalidWeb") (tt_InvalidNumbering : Tt K xa "InvalidNumbering") (tt_InvalidPlace : Tt K xa "InvalidPlace") (tt_InvalidBegun : Tt K xa "InvalidBegun") (tt_InvalidNumber : Tt K xa "InvalidNumber") (tt_InvalidPair : Tt K xa "InvalidPair") (tt_InvalidText : Tt K xa "InvalidText") (tt_NotGood : Tt K xa "NotGood") (tt_NoLines : Tt K xa "NoLines") (tt_TooMany : Tt K xa "TooMany") (tt_AlreadyThere : Tt K xa "AlreadyThere") (tt_Taken : Tt K xa "Taken") (tt_Equal : Tt K xa "Equal") (tt_NotThere : Tt K xa "NotThere") (tt_NothingToUndo : Tt K xa "NothingToUndo") (dk : DeskC K Cd) (c__law_rounds : Cal P w K mg base 2 "_law_rounds" ["script", "most"] (spRounds K)) (mk_Desk : MkC P w K mg base 5 "Desk" Cd ["self", "web"] (spM Cd (R_Desk___init__ xa))) (c__law_roll : Cal P w K mg base 2 "_law_roll" ["dice", "many"] (spO R_law_roll)) (c_Desk_put : CalM P w K mg base 3 Cd "put" ["self", "place", "number"] (spM Cd (R_Desk_put xa))) (c_first_good : Cal P w K mg base 5 "first_good" ["web"] (spP (R_first_good xa))) (c_line_numbers : Cal P w K mg base 6 "line_numbers" ["web", "numbering"] (spP (R_line_numbers xa))) (c_possible_numbers : Cal P w K mg base 5 "possible_numbers" ["web", "place"] (spP (R_possible_numbers xa))) (c_completed : Cal P w K mg base 5 "completed" ["web", "begun"] (spP (R_completed xa))) (c_first_with_top : Cal P w K mg base 6 "first_with_top" ["web", "top"] (spP (R_first_with_top xa))) (c_turn_of : Cal P w K mg base 6 "turn_of" ["web", "numbering", "pair"] (spP (R_turn_of xa))) (c_parse_web : Cal P w K mg base 4 "parse_web" ["text"] (spP (R_parse_web xa))) (c_copy_at : Cal P w K mg base 6 "copy_at" ["web", "numbering", "turn"] (spP (R_copy_at xa))) (c_first_sum_good : Cal P w K mg base 6 "first_sum_good" ["web"] (spP (R_first_sum_good xa))) (c_count_good : Cal P w K mg base 5 "count_good" ["web"] (spP (R_count_good xa))) (c__law_pairs : Cal P w K mg base 1 "_law_pairs" ["many"] (spP R_law_pairs)) (c_Desk_take : CalM P w K mg base 3 Cd "take" ["self", "place"] (spM Cd (R_Desk_take xa))) (c_Desk_redo : CalM P w K mg base 1 Cd "redo" ["self"] (spM Cd (R_Desk_redo xa))) (c__law_alone : Cal P w K mg base 1 "_law_alone" ["e", "own"] (spA xa)) :
    FnOk P w K mg base CX0 9 f (PySem.W.fnOf "law" "law" (defArgs s_law) (defBody s_law) (defScope s_law) .none kV doc pm an (.ref c) ct) ["script"] (spLaw K (lamT Pt)) := by
  refine fnC lk hcd sc_law (fun vs H Q E h => ?_) (fun A outer s H vs Q E hr h => ⟨_, (pss_cons (ps_for PassesOwn.never rfl (piL (K := K) rfl (pe_cal c__law_rounds (hr.mono (by decide)) (by rfl) (pa_cons (pv 0) (pa_cons pe_int pa_nil)))) (pg_name (i := 1) sc_law.nd rfl (Or.inl rfl)) (pss_cons (ps_asg (pe_tup (pa_cons (pe_op op_add pe_int (pe_cal c__law_roll (hr.mono (by decide)) (by rfl) (pa_cons (pv 1) (pa_cons pe_int pa_nil)))) (pa_cons (pe_tup (pa_cons pe_int (pa_cons (pe_tup (pa_cons (pe_tup (pa_cons pe_int (pa_cons pe_int pa_nil))) (pa_cons (pe_tup (pa_cons pe_int (pa_cons pe_int pa_nil))) pa_nil))) pa_nil))) (pa_cons (makeK (K := K) rfl mk_Desk (hr.mono (by decide)) (by rfl) (pa_cons (pe_tup (pa_cons pe_int (pa_cons (pe_tup (pa_cons (pe_tup (pa_cons pe_int (pa_cons pe_int pa_nil))) (pa_cons (pe_tup (pa_cons pe_int (pa_cons pe_int pa_nil))) pa_nil))) pa_nil))) pa_nil)) pa_nil)))) (pgT (K := K) rfl rfl (pgs_cons (pg_name (i := 2) sc_law.nd rfl (Or.inr rfl)) (pgs_cons (pg_name (i := 3) sc_law.nd rfl (Or.inr rfl)) (pgs_cons (pg_name (i := 4) sc_law.nd rfl (Or.inr rfl)) pgs_nil)))))
      (pss_cons (ps_expr (calMK (K := K) rfl c_Desk_put dk.cls (hr.mono (by decide)) (pv 4) (pa_cons pe_int (pa_cons pe_int pa_nil))))
      (pss_cons (ps_expr (calMK (K := K) rfl c_Desk_put dk.cls (hr.mono (by decide)) (pv 4) (pa_cons pe_int (pa_cons pe_int pa_nil))))
      (pss_cons (ps_set (i := 5) sc_law.nd rfl (Or.inl rfl) (pe_lst (pa_cons (metK (K := K) rfl (T := lamT Pt) (k := 6) F_met st_met hl (by rfl) TB rfl (.head _) lamT_u (hr.mono (by decide)) (lamS_by (sc := defScope s_law) (by decide +kernel)) rfl (fun _ _ _ _ _ => rfl) (fun _ _ _ _ E _ _ hr => (pe_calX (E := E) c_first_good (hr.mono (by decide)) (by rfl) lamN_takes (pa_cons (pe_tup (pa_cons (pv 2) (pa_cons (pe_tup pa_nil) pa_nil))) pa_nil)))) pa_nil)))
      (pss_cons (ps_expr (appK (K := K) rfl (pv 5) (pa_cons (metK (K := K) rfl (T := lamT Pt) (k := 6) F_met st_met hl (by rfl) TB rfl (.head _) lamT_u (hr.mono (by decide)) (lamS_by (sc := defScope s_law) (by decide +kernel)) rfl (fun _ _ _ _ _ => rfl) (fun _ _ _ _ E _ _ hr => (pe_calX (E := E) c_line_numbers (hr.mono (by decide)) (by rfl) lamN_takes (pa_cons (pv 3) (pa_cons (pe_op (repK (K := K) rfl) (pe_tup (pa_cons (pv 2) pa_nil)) pe_int) pa_nil))))) pa_nil)))
      (pss_cons (ps_expr (appK (K := K) rfl (pv 5) (pa_cons (metK (K := K) rfl (T := lamT Pt) (k := 6) F_met st_met hl (by rfl) TB rfl (.head _) lamT_u (hr.mono (by decide)) (lamS_by (sc := defScope s_law) (by decide +kernel)) rfl (fun _ _ _ _ _ => rfl) (fun _ _ _ _ E _ _ hr => (pe_calX (E := E) c_possible_numbers (hr.mono (by decide)) (by rfl) lamN_takes (pa_cons (pv 3) (pa_cons (pv 2) pa_nil))))) pa_nil)))
      (pss_cons (ps_expr (appK (K := K) rfl (pv 5) (pa_cons (metK (K := K) rfl (T := lamT Pt) (k := 6) F_met st_met hl (by rfl) TB rfl (.head _) lamT_u (hr.mono (by decide)) (lamS_by (sc := defScope s_law) (by decide +kernel)) rfl (fun _ _ _ _ _ => rfl) (fun _ _ _ _ E _ _ hr => (pe_calX (E := E) c_completed (hr.mono (by decide)) (by rfl) lamN_takes (pa_cons (pv 3) (pa_cons (pe_tup (pa_cons (pv 2) pa_nil)) pa_nil))))) pa_nil)))
      (pss_cons (ps_expr (appK (K := K) rfl (pv 5) (pa_cons (metK (K := K) rfl (T := lamT Pt) (k := 6) F_met st_met hl (by rfl) TB rfl (.head _) lamT_u (hr.mono (by decide)) (lamS_by (sc := defScope s_law) (by decide +kernel)) rfl (fun _ _ _ _ _ => rfl) (fun _ _ _ _ E _ _ hr => (pe_calX (E := E) c_first_with_top (hr.mono (by decide)) (by rfl) lamN_takes (pa_cons (pv 3) (pa_cons (pv 2) pa_nil))))) pa_nil)))
      (pss_cons (ps_expr (appK (K := K) rfl (pv 5) (pa_cons (metK (K := K) rfl (T := lamT Pt) (k := 6) F_met st_met hl (by rfl) TB rfl (.head _) lamT_u (hr.mono (by decide)) (lamS_by (sc := defScope s_law) (by decide +kernel)) rfl (fun _ _ _ _ _ => rfl) (fun _ _ _ _ E _ _ hr => (pe_calX (E := E) c_turn_of (hr.mono (by decide)) (by rfl) lamN_takes (pa_cons (pv 3) (pa_cons (pe_tup (pa_cons pe_int (pa_cons pe_int (pa_cons pe_int pa_nil)))) (pa_cons (pe_tup (pa_cons pe_int (pa_cons (pv 2) pa_nil))) pa_nil)))))) pa_nil)))
      (pss_cons (ps_expr (appK (K := K) rfl (pv 5) (pa_cons (metK (K := K) rfl (T := lamT Pt) (k := 6) F_met st_met hl (by rfl) TB rfl (.head _) lamT_u (hr.mono (by decide)) (lamS_by (sc := defScope s_law) (by decide +kernel)) rfl (fun _ _ _ _ _ => rfl) (fun _ _ _ _ E _ _ hr => (pe_calX (E := E) c_parse_web (hr.mono (by decide)) (by rfl) lamN_takes (pa_cons (pe_op op_mulS pe_str (pv 2)) pa_nil)))) pa_nil)))
      (pss_cons (ps_expr (appK (K := K) rfl (pv 5) (pa_cons (metK (K := K) rfl (T := lamT Pt) (k := 6) F_met st_met hl (by rfl) TB rfl (.head _) lamT_u (hr.mono (by decide)) (lamS_by (sc := defScope s_law) (by decide +kernel)) rfl (fun _ _ _ _ _ => rfl) (fun _ _ _ _ E _ _ hr => (pe_calX (E := E) c_copy_at (hr.mono (by decide)) (by rfl) lamN_takes (pa_cons (pv 3) (pa_cons (pe_tup (pa_cons pe_int (pa_cons pe_int (pa_cons pe_int pa_nil)))) (pa_cons pe_int pa_nil)))))) pa_nil)))
      (pss_cons (ps_expr (appK (K := K) rfl (pv 5) (pa_cons (metK (K := K) rfl (T := lamT Pt) (k := 6) F_met st_met hl (by rfl) TB rfl (.head _) lamT_u (hr.mono (by decide)) (lamS_by (sc := defScope s_law) (by decide +kernel)) rfl (fun _ _ _ _ _ => rfl) (fun _ _ _ _ E _ _ hr => (pe_calX (E := E) c_first_sum_good (hr.mono (by decide)) (by rfl) lamN_takes (pa_cons (pe_tup (pa_cons (pe_op op_add pe_int (pe_op op_mod (pv 2) pe_int)) (pa_cons (pe_tup pa_nil) pa_nil))) pa_nil)))) pa_nil)))
      (pss_cons (ps_expr (appK (K := K) rfl (pv 5) (pa_cons (metK (K := K) rfl (T := lamT Pt) (k := 6) F_met st_met hl (by rfl) TB rfl (.head _) lamT_u (hr.mono (by decide)) (lamS_by (sc := defScope s_law) (by decide +kernel)) rfl (fun _ _ _ _ _ => rfl) (fun _ _ _ _ E _ _ hr => (pe_calX (E := E) c_count_good (hr.mono (by decide)) (by rfl) lamN_takes (pa_cons (pe_tup (pa_cons pe_int (pa_cons (pe_callTy (tupK (K := K) rfl) (by rfl) B.tuple bb_tuple (pa_cons (pe_cal c__law_pairs (hr.mono (by decide)) (by rfl) (pa_cons pe_int pa_nil)) pa_nil)) pa_nil))) pa_nil)))) pa_nil)))
      (pss_cons (ps_expr (appK (K := K) rfl (pv 5) (pa_cons (metK (K := K) rfl (T := lamT Pt) (k := 6) F_met st_met hl (by rfl) TB rfl (.head _) lamT_u (hr.mono (by decide)) (lamS_by (sc := defScope s_law) (by decide +kernel)) rfl (fun _ _ _ _ _ => rfl) (fun _ _ _ _ E _ _ hr => (calMKx (K := K) (E := E) rfl c_Desk_put dk.cls (hr.mono (by decide)) lamN_takes (pv 4) (pa_cons pe_int (pa_cons pe_int pa_nil))))) pa_nil)))
      (pss_cons (ps_expr (appK (K := K) rfl (pv 5) (pa_cons (metK (K := K) rfl (T := lamT Pt) (k := 6) F_met st_met hl (by rfl) TB rfl (.head _) lamT_u (hr.mono (by decide)) (lamS_by (sc := defScope s_law) (by decide +kernel)) rfl (fun _ _ _ _ _ => rfl) (fun _ _ _ _ E _ _ hr => (calMKx (K := K) (E := E) rfl c_Desk_put dk.cls (hr.mono (by decide)) lamN_takes (pv 4) (pa_cons pe_int (pa_cons pe_int pa_nil))))) pa_nil)))
      (pss_cons (ps_expr (appK (K := K) rfl (pv 5) (pa_cons (metK (K := K) rfl (T := lamT Pt) (k := 6) F_met st_met hl (by rfl) TB rfl (.head _) lamT_u (hr.mono (by decide)) (lamS_by (sc := defScope s_law) (by decide +kernel)) rfl (fun _ _ _ _ _ => rfl) (fun _ _ _ _ E _ _ hr => (calMKx (K := K) (E := E) rfl c_Desk_put dk.cls (hr.mono (by decide)) lamN_takes (pv 4) (pa_cons pe_int (pa_cons pe_int pa_nil))))) pa_nil)))
      (pss_cons (ps_expr (appK (K := K) rfl (pv 5) (pa_cons (metK (K := K) rfl (T := lamT Pt) (k := 6) F_met st_met hl (by rfl) TB rfl (.head _) lamT_u (hr.mono (by decide)) (lamS_by (sc := defScope s_law) (by decide +kernel)) rfl (fun _ _ _ _ _ => rfl) (fun _ _ _ _ E _ _ hr => (calMKx (K := K) (E := E) rfl c_Desk_take dk.cls (hr.mono (by decide)) lamN_takes (pv 4) (pa_cons pe_int pa_nil)))) pa_nil)))
      (pss_cons (ps_expr (appK (K := K) rfl (pv 5) (pa_cons (metK (K := K) rfl (T := lamT Pt) (k := 6) F_met st_met hl (by rfl) TB rfl (.head _) lamT_u (hr.mono (by decide)) (lamS_by (sc := defScope s_law) (by decide +kernel)) rfl (fun _ _ _ _ _ => rfl) (fun _ _ _ _ E _ _ hr => (calMK0x (K := K) (E := E) rfl c_Desk_redo dk.cls (hr.mono (by decide)) lamN_takes (pv 4)))) pa_nil)))
      (pss_one (ps_if (pt_not (pt_val (pe_callB (allK (K := K) rfl rfl) (by rfl) B.all bb_all (pa_cons (pe_lc (own := [("at", 6), ("e", 7)]) (g := (gTup K 2 (gCons (gName 6) (gCons (gName 7) gNil)))) (tt := tYes) rfl sc_law.nd (pi_enum (by rfl) B.enumerate (pa_cons (pv 5) pa_nil)) (blkOk_by (own := [("at", 6), ("e", 7)]) (N := ["script", "dice", "more", "one", "two", "made", "at", "e"]) (sc := defScope s_law) (by decide +kernel)) (fun _ _ _ _ _ => (pgT (K := K) rfl rfl (pgs_cons (pg_name (i := 6) sc_law.nd rfl (Or.inl rfl)) (pgs_cons (pg_name (i := 7) sc_law.nd rfl (Or.inl rfl)) pgs_nil)))) (fun _ _ _ _ _ => pts_nil) (fun _ _ _ _ _ => (pe_cal c__law_alone (hr.mono (by decide)) (by rfl) (pa_cons (pv 7) (pa_cons (pv 6) pa_nil))))) pa_nil)))) (pss_one (ps_ret pe_bl)) pss_nil)))))))))))))))))))))
      (pss_one (ps_ret pe_bl))), law_reads (n := 6) rfl (by decide) (fun X p cc => ⟨List.replicate 8 .no, rfl, ?_⟩) h⟩)
  · obtain ⟨a, ns, rfl, _⟩ := h
    rfl
  show SS (lamT Pt) X _ (lawS p 6 (cc, 0) []) _
  generalize hD : ((cc, 0) : Dc) = D
  have n0 := rollV_lo D (m := 90) (by decide)
  have n1 := rollV_hi D (m := 90) (by decide)
  have web3 : ∀ {ρ : List Sl}, EE (lamT Pt) (tTup (tCons (tC (.int 3)) (tCons (tTup (tCons (tTup (tCons (tC (.int 0)) (tCons (tC (.int 1)) tNil))) (tCons (tTup (tCons (tC (.int 1)) (tCons (tC (.int 2)) tNil))) tNil))) tNil))) ρ (eW w3) ρ := ee_tup (ea_2 ee_int (ee_tup (ea_2 (ee_tup (ea_2 ee_int ee_int) (by simp)) (ee_tup (ea_2 ee_int ee_int) (by simp))) (by decide))) (by decide)
  obtain ⟨ok3, top3, wb3⟩ := w3_ok
  refine ss_seqN (sn_asg3 (i := 4) (j := 2) (k := 3) (J := fun ρ => ∃ q, ρ = [.no, .own (some p) (eD (rollS D 90)), .dat (.int (21 + rollV D 90)), .dat (eW w3), .obj q Cd (eDk s1), .no, .no, .no]) (ee_op ee_int (ee_callO (i := 1) rfl (ea_1 ee_int) rfl (roll_ok (D := D) (m := 90) (by decide) (by decide))) re_add) web3 (em_make (R := R_Desk___init__ xa) (ea_1 web3) ⟨w3, rfl, rfl, ok3, rfl, rfl⟩) (fun q => ⟨q, rfl⟩)) ?_
  rintro _ ⟨q, rfl⟩
  generalize hn : 21 + rollV D 90 = n
  generalize rollS D 90 = D1
  have hn0 : 21 ≤ n := by omega
  have hn1 : n ≤ 111 := by omega
  refine ss_seq (ss_drop (ee_meth (i := 4) (R := R_Desk_put xa) (d := .int 1) (st' := eDk s2) rfl rfl (ea_2 ee_int ee_int) rfl rfl ⟨s1, .int 0, .int 0, rfl, rfl, s_ok1, by rw [puts1]; exact ⟨rfl, rfl⟩⟩)) ?_
  refine ss_seq (ss_drop (ee_meth (i := 4) (R := R_Desk_put xa) (d := .int 2) (st' := eDk s3) rfl rfl (ea_2 ee_int ee_int) rfl rfl ⟨s2, .int 1, .int 1, rfl, rfl, s_ok2, by rw [puts2]; exact ⟨rfl, rfl⟩⟩)) ?_
  show SS (lamT Pt) X _ [.no, .own (some p) (eD D1), .dat (.int n), .dat (eW w3), .obj q Cd (eDk s3), .no, .no, .no] _
  obtain ⟨b1, b2, b3, b4, b5, b6, b7⟩ := big_fits hn0
  obtain ⟨m1, m2, m3, m4⟩ := w3_nums
  obtain ⟨d1, d2, d3, d4, d5⟩ := puts3
  have sm0 : ∀ k : Int, smallW (eW (k, [])) := fun k => smallW_eW (by simp)
  refine ss_made (C := xa "InvalidWeb") (ex_met lamT_ne tt_InvalidWeb.le (er_call (R := R_first_good xa) (ds := [eW (n, [])]) (ea_1 (ee_tup (ea_2 (ee_var rfl) (ee_tup ea_nil (by simp))) (by simp))) ⟨_, rfl, sm0 n, by rw [webB_eW]; exact b6, rfl⟩)) rfl ?_
  refine smo_app (C := xa "InvalidNumbering") (by simp) (ex_met lamT_ne tt_InvalidNumbering.le (er_call (R := R_line_numbers xa) (ds := [eW w3, eT [n, n, n]]) (ea_2 (ee_var rfl) (ee_op (ee_tup (ea_1 (ee_var rfl)) (by simp)) ee_int (re_rep (by simp) (by decide) (by decide) (by simp)))) ⟨_, _, _, rfl, w3_small, by unfold needNum; rw [if_pos wb3, toW_eW, if_neg (by rw [b1]; decide)], rfl⟩)) ?_
  refine smo_app (C := xa "InvalidPlace") (by simp) (ex_met lamT_ne tt_InvalidPlace.le (er_call (R := R_possible_numbers xa) (ea_2 (ee_var rfl) (ee_var rfl)) ⟨w3, .int n, rfl, w3_small, wb3, b3, rfl⟩)) ?_
  refine smo_app (C := xa "InvalidBegun") (by simp) (ex_met lamT_ne tt_InvalidBegun.le (er_call (R := R_completed xa) (ds := [eW w3, eT [n]]) (ea_2 (ee_var rfl) (ee_tup (ea_1 (ee_var rfl)) (by simp))) ⟨w3, eT [n], rfl, w3_small, wb3, by decide, b2, rfl⟩)) ?_
  refine smo_app (C := xa "InvalidNumber") (by simp) (ex_met lamT_ne tt_InvalidNumber.le (er_call (R := R_first_with_top xa) (ea_2 (ee_var rfl) (ee_var rfl)) ⟨eW w3, .int n, _, rfl, w3_small, by unfold bothR; rw [if_pos wb3, if_neg (by rw [b4]; decide)], rfl⟩)) ?_
  refine smo_app (C := xa "InvalidPair") (by simp) (ex_met lamT_ne tt_InvalidPair.le (er_call (R := R_turn_of xa) (ds := [eW w3, eT [0, 2, 1], eP (0, n)]) (ea_3 (ee_var rfl) (ee_tup (ea_3 ee_int ee_int ee_int) (by simp)) (ee_tup (ea_2 ee_int (ee_var rfl)) (by simp))) ⟨w3, _, _, rfl, w3_small, by unfold needNum; rw [if_pos wb3, toW_eW, if_pos m1], b5, rfl⟩)) ?_
  refine smo_app (C := xa "InvalidText") (by simp) (ex_met lamT_ne tt_InvalidText.le (er_call (R := R_parse_web xa) (ea_1 (ee_op ee_str (ee_var rfl) (re_mulS (by decide +kernel) (by decide +kernel) (by omega) (by omega)))) ⟨_, rfl, fun a h => by cases h; rw [timesS_len, show ("-" : Str).length = 1 by decide +kernel]; omega, (parse_dash xa (by omega)).symm⟩)) ?_
  refine smo_app (C := xa "NotGood") (by simp) (ex_met lamT_ne tt_NotGood.le (er_call (R := R_copy_at xa) (ds := [eW w3, eT [0, 1, 2], .int 0]) (ea_3 (ee_var rfl) (ee_tup (ea_3 ee_int ee_int ee_int) (by simp)) ee_int) ⟨w3, [0, 1, 2], .int 0, rfl, w3_small, by decide, ends_ok (good_of ok3) rfl, by unfold needNum; rw [if_pos wb3, toW_eW, if_pos m2], m4, m3, rfl⟩)) ?_
  refine smo_app (C := xa "NoLines") (by simp) (ex_met lamT_ne tt_NoLines.le (er_call (R := R_first_sum_good xa) (ds := [eW (1 + n % 6, [])]) (ea_1 (ee_tup (ea_2 (ee_op ee_int (ee_op (ee_var rfl) ee_int (re_mod (by decide))) re_add) (ee_tup ea_nil (by simp))) (by simp))) ⟨_, _, rfl, sm0 _, by unfold needLines; rw [if_pos (by rw [webB_eW]; exact b7), toW_eW, if_pos rfl], rfl⟩)) ?_
  refine smo_app (C := xa "TooMany") (by simp) (ex_met lamT_ne tt_TooMany.le (er_call (R := R_count_good xa) (ds := [eW (6, pairsN 6)]) (ea_1 (ee_tup (ea_2 ee_int (ee_cb (ea_1 (ee_call (R := R_law_pairs) (ea_1 ee_int) ⟨6, rfl, by decide, by decide, rfl⟩)) rb_tupL)) (by simp))) ⟨(6, pairsN 6), rfl, smallW_eW (by decide +kernel), by rw [webB_eW]; exact pairs6.1, pairs6.2, rfl⟩)) ?_
  refine smo_app (C := xa "AlreadyThere") (by simp) (ex_met lamT_ne tt_AlreadyThere.le (er_of <| erm_meth (i := 4) (R := R_Desk_put xa) (st' := eDk s3) rfl rfl (ea_2 ee_int ee_int) rfl rfl ⟨s3, .int 0, .int 2, rfl, rfl, s_ok3, by rw [d1]; exact ⟨rfl, rfl⟩⟩)) ?_
  refine smo_app (C := xa "Taken") (by simp) (ex_met lamT_ne tt_Taken.le (er_of <| erm_meth (i := 4) (R := R_Desk_put xa) (st' := eDk s3) rfl rfl (ea_2 ee_int ee_int) rfl rfl ⟨s3, .int 2, .int 0, rfl, rfl, s_ok3, by rw [d2]; exact ⟨rfl, rfl⟩⟩)) ?_
  refine smo_app (C := xa "Equal") (by simp) (ex_met lamT_ne tt_Equal.le (er_of <| erm_meth (i := 4) (R := R_Desk_put xa) (st' := eDk s3) rfl rfl (ea_2 ee_int ee_int) rfl rfl ⟨s3, .int 2, .int 2, rfl, rfl, s_ok3, by rw [d3]; exact ⟨rfl, rfl⟩⟩)) ?_
  refine smo_app (C := xa "NotThere") (by simp) (ex_met lamT_ne tt_NotThere.le (er_of <| erm_meth (i := 4) (R := R_Desk_take xa) (st' := eDk s3) rfl rfl (ea_1 ee_int) rfl rfl ⟨s3, .int 2, rfl, rfl, s_ok3, by rw [d4]; exact ⟨rfl, rfl⟩⟩)) ?_
  refine smo_app (C := xa "NothingToUndo") (by simp) (ex_met lamT_ne tt_NothingToUndo.le (er_of <| erm_meth (i := 4) (R := R_Desk_redo xa) (st' := eDk s3) rfl rfl ea_nil rfl rfl ⟨s3, rfl, rfl, s_ok3, by rw [d5]; exact ⟨rfl, rfl⟩⟩)) ?_
  exact smo_last (i := 6) (k := 7) (xa := xa) (by decide) (by show 6 < 8; decide) (by show 7 < 8; decide)

end
end U
namespace U
open PySem L2 PyProof.Rows DL
section
variable {P : Program} {w : World} {K : PySem.W.Frag} {mg : Str → Option Value} {base : Heap}
theorem law_mk {P0 : Program} {fa k0 k1 k2 k3 k4 k5 k6 k7 k8 k9 k10 k11 k12 k13 k14 k15 c Pt Cd : Addr} {h : Heap} {oc : Value} {od an : Option Addr} {kV doc pm ct : Value} {osl : Array (Option Value)} (KX : K.In h) (G : h.Ns mainGlobals mg) (B : Bt mg)
    (lk : K.lookup fa = some ⟨oc, od, .func (PySem.W.fnOf "law" "law" (defArgs s_law) (defBody s_law) (defScope s_law) .none kV doc pm an (.ref c) ct), osl⟩) (hcd : PySem.W.codeIn K (.ref c) "law" = true) (htab : PySem.W.codeHdIn K c Pt = true) (hP : K.lookup Pt = none)
    (g_LineError : PySem.W.nsIn K mainGlobals "LineError" = some (some (.ref k0))) (g_InvalidWeb : PySem.W.nsIn K mainGlobals "InvalidWeb" = some (some (.ref k1))) (g_InvalidNumbering : PySem.W.nsIn K mainGlobals "InvalidNumbering" = some (some (.ref k2))) (g_InvalidPlace : PySem.W.nsIn K mainGlobals "InvalidPlace" = some (some (.ref k3))) (g_InvalidBegun : PySem.W.nsIn K mainGlobals "InvalidBegun" = some (some (.ref k4))) (g_InvalidNumber : PySem.W.nsIn K mainGlobals "InvalidNumber" = some (some (.ref k5))) (g_InvalidPair : PySem.W.nsIn K mainGlobals "InvalidPair" = some (some (.ref k6))) (g_InvalidText : PySem.W.nsIn K mainGlobals "InvalidText" = some (some (.ref k7))) (g_NotGood : PySem.W.nsIn K mainGlobals "NotGood" = some (some (.ref k8))) (g_NoLines : PySem.W.nsIn K mainGlobals "NoLines" = some (some (.ref k9))) (g_TooMany : PySem.W.nsIn K mainGlobals "TooMany" = some (some (.ref k10))) (g_AlreadyThere : PySem.W.nsIn K mainGlobals "AlreadyThere" = some (some (.ref k11))) (g_Taken : PySem.W.nsIn K mainGlobals "Taken" = some (some (.ref k12))) (g_Equal : PySem.W.nsIn K mainGlobals "Equal" = some (some (.ref k13))) (g_NotThere : PySem.W.nsIn K mainGlobals "NotThere" = some (some (.ref k14))) (g_NothingToUndo : PySem.W.nsIn K mainGlobals "NothingToUndo" = some (some (.ref k15))) (g_Desk : PySem.W.nsIn K mainGlobals "Desk" = some (some (.ref Cd))) (dkf : DkF K Cd)
    (x_InvalidWeb : XcF K k1) (x_InvalidPlace : XcF K k3) (x_InvalidNumber : XcF K k5) (x_AlreadyThere : XcF K k11) (x_Taken : XcF K k12) (x_Equal : XcF K k13) (x_InvalidNumbering : XcF K k2) (x_InvalidBegun : XcF K k4) (x_InvalidPair : XcF K k6) (x_InvalidText : XcF K k7) (x_NotGood : XcF K k8) (x_NoLines : XcF K k9) (x_TooMany : XcF K k10) (x_NotThere : XcF K k14) (x_NothingToUndo : XcF K k15)
    (t_InvalidWeb : TtF K k1 k0 [k1, k2, k3, k4, k5, k6, k7, k8, k9, k10, k11, k12, k13, k14, k15] [true, false, false, false, false, false, false, false, false, false, false, false, false, false, false]) (t_InvalidNumbering : TtF K k2 k0 [k1, k2, k3, k4, k5, k6, k7, k8, k9, k10, k11, k12, k13, k14, k15] [false, true, false, false, false, false, false, false, false, false, false, false, false, false, false]) (t_InvalidPlace : TtF K k3 k0 [k1, k2, k3, k4, k5, k6, k7, k8, k9, k10, k11, k12, k13, k14, k15] [false, false, true, false, false, false, false, false, false, false, false, false, false, false, false]) (t_InvalidBegun : TtF K k4 k0 [k1, k2, k3, k4, k5, k6, k7, k8, k9, k10, k11, k12, k13, k14, k15] [false, false, false, true, false, false, false, false, false, false, false, false, false, false, false]) (t_InvalidNumber : TtF K k5 k0 [k1, k2, k3, k4, k5, k6, k7, k8, k9, k10, k11, k12, k13, k14, k15] [false, false, false, false, true, false, false, false, false, false, false, false, false, false, false]) (t_InvalidPair : TtF K k6 k0 [k1, k2, k3, k4, k5, k6, k7, k8, k9, k10, k11, k12, k13, k14, k15] [false, false, false, false, false, true, false, false, false, false, false, false, false, false, false]) (t_InvalidText : TtF K k7 k0 [k1, k2, k3, k4, k5, k6, k7, k8, k9, k10, k11, k12, k13, k14, k15] [false, false, false, false, false, false, true, false, false, false, false, false, false, false, false]) (t_NotGood : TtF K k8 k0 [k1, k2, k3, k4, k5, k6, k7, k8, k9, k10, k11, k12, k13, k14, k15] [false, false, false, false, false, false, false, true, false, false, false, false, false, false, false]) (t_NoLines : TtF K k9 k0 [k1, k2, k3, k4, k5, k6, k7, k8, k9, k10, k11, k12, k13, k14, k15] [false, false, false, false, false, false, false, false, true, false, false, false, false, false, false]) (t_TooMany : TtF K k10 k0 [k1, k2, k3, k4, k5, k6, k7, k8, k9, k10, k11, k12, k13, k14, k15] [false, false, false, false, false, false, false, false, false, true, false, false, false, false, false]) (t_AlreadyThere : TtF K k11 k0 [k1, k2, k3, k4, k5, k6, k7, k8, k9, k10, k11, k12, k13, k14, k15] [false, false, false, false, false, false, false, false, false, false, true, false, false, false, false]) (t_Taken : TtF K k12 k0 [k1, k2, k3, k4, k5, k6, k7, k8, k9, k10, k11, k12, k13, k14, k15] [false, false, false, false, false, false, false, false, false, false, false, true, false, false, false]) (t_Equal : TtF K k13 k0 [k1, k2, k3, k4, k5, k6, k7, k8, k9, k10, k11, k12, k13, k14, k15] [false, false, false, false, false, false, false, false, false, false, false, false, true, false, false]) (t_NotThere : TtF K k14 k0 [k1, k2, k3, k4, k5, k6, k7, k8, k9, k10, k11, k12, k13, k14, k15] [false, false, false, false, false, false, false, false, false, false, false, false, false, true, false]) (t_NothingToUndo : TtF K k15 k0 [k1, k2, k3, k4, k5, k6, k7, k8, k9, k10, k11, k12, k13, k14, k15] [false, false, false, false, false, false, false, false, false, false, false, false, false, false, true])
    (F_law_cell : Fn K mg "_law_cell" s_law_cell) (F_law_rounds : Fn K mg "_law_rounds" s_law_rounds) (F_is_whole : Fn K mg "is_whole" s_is_whole) (F_is_pair : Fn K mg "is_pair" s_is_pair) (F_is_web : Fn K mg "is_web" s_is_web) (F_need_web : Fn K mg "need_web" s_need_web) (F_Desk___init__ : MFn K Cd "__init__" "Desk.__init__" s_Desk___init__) (F_law_drawn : Fn K mg "_law_drawn" s_law_drawn) (F_law_roll : Fn K mg "_law_roll" s_law_roll) (F_need_place : Fn K mg "need_place" s_need_place) (F_top_of : Fn K mg "top_of" s_top_of) (F_known_lines : Fn K mg "known_lines" s_known_lines) (F_with_number : Fn K mg "with_number" s_with_number) (F_is_fitting : Fn K mg "is_fitting" s_is_fitting) (F_Desk_change : MFn K Cd "change" "Desk.change" s_Desk_change) (F_Desk_put : MFn K Cd "put" "Desk.put" s_Desk_put) (F_first_good : Fn K mg "first_good" s_first_good) (F_are_unlike : Fn K mg "are_unlike" s_are_unlike) (F_fits_top : Fn K mg "fits_top" s_fits_top) (F_need_numbering : Fn K mg "need_numbering" s_need_numbering) (F_line_numbers : Fn K mg "line_numbers" s_line_numbers) (F_possible_numbers : Fn K mg "possible_numbers" s_possible_numbers) (F_completed : Fn K mg "completed" s_completed) (F_need_both : Fn K mg "need_both" s_need_both) (F_first_with_top : Fn K mg "first_with_top" s_first_with_top) (F_turn_of : Fn K mg "turn_of" s_turn_of) (F_digit : Fn K mg "digit" s_digit) (F_line_of : Fn K mg "line_of" s_line_of) (F_parse_web : Fn K mg "parse_web" s_parse_web) (F_numbers_of_lines : Fn K mg "numbers_of_lines" s_numbers_of_lines) (F_all_differ : Fn K mg "all_differ" s_all_differ) (F_need_good : Fn K mg "need_good" s_need_good) (F_copy_at : Fn K mg "copy_at" s_copy_at) (F_need_lines : Fn K mg "need_lines" s_need_lines) (F_first_sum_good : Fn K mg "first_sum_good" s_first_sum_good) (F_need_few : Fn K mg "need_few" s_need_few) (F_count_good : Fn K mg "count_good" s_count_good) (F_law_pairs : Fn K mg "_law_pairs" s_law_pairs) (F_Desk_take : MFn K Cd "take" "Desk.take" s_Desk_take) (F_Desk_redo : MFn K Cd "redo" "Desk.redo" s_Desk_redo) (F_law_alone : Fn K mg "_law_alone" s_law_alone) (F_law_met : Fn K mg "_law_met" s_law_met) :
    ∃ (fd : FuncData) (c : Addr), PySem.W.codeHdIn K c Pt = true ∧ K.lookup Pt = none ∧ (∀ (s : Shared) (u : Value), BindsTo s fd ⟨[u], []⟩ [("script", u)]) ∧ ∀ base : Heap, K.In base → base.Ns mainGlobals mg → LamX.TabB base mg c Pt → FnOk P0 w K mg base CX0 9 fa fd ["script"] (spLaw K (lamT Pt)) := by
  refine ⟨PySem.W.fnOf "law" "law" (defArgs s_law) (defBody s_law) (defScope s_law) .none kV doc pm an (.ref c) ct, c, htab, hP, fun s u => .of_eq rfl, fun base _ _ TB => ?_⟩
  have dk := dkf.dk
  generalize hxa : xaOf [("LineError", k0), ("InvalidWeb", k1), ("InvalidNumbering", k2), ("InvalidPlace", k3), ("InvalidBegun", k4), ("InvalidNumber", k5), ("InvalidPair", k6), ("InvalidText", k7), ("NotGood", k8), ("NoLines", k9), ("TooMany", k10), ("AlreadyThere", k11), ("Taken", k12), ("Equal", k13), ("NotThere", k14), ("NothingToUndo", k15)] = xa
  have at_ : ∀ p ∈ ([("LineError", k0), ("InvalidWeb", k1), ("InvalidNumbering", k2), ("InvalidPlace", k3), ("InvalidBegun", k4), ("InvalidNumber", k5), ("InvalidPair", k6), ("InvalidText", k7), ("NotGood", k8), ("NoLines", k9), ("TooMany", k10), ("AlreadyThere", k11), ("Taken", k12), ("Equal", k13), ("NotThere", k14), ("NothingToUndo", k15)] : List (Str × Addr)), xa p.1 = p.2 := fun p hp => by rw [← hxa]; exact xaOf_at (by show List.Nodup (["LineError", "InvalidWeb", "InvalidNumbering", "InvalidPlace", "InvalidBegun", "InvalidNumber", "InvalidPair", "InvalidText", "NotGood", "NoLines", "TooMany", "AlreadyThere", "Taken", "Equal", "NotThere", "NothingToUndo"] : List Str); decide) hp
  have e_LineError : xa "LineError" = k0 := at_ ("LineError", k0) (.head _)
  have e_InvalidWeb : xa "InvalidWeb" = k1 := at_ ("InvalidWeb", k1) (.tail _ (.head _))
  have e_InvalidNumbering : xa "InvalidNumbering" = k2 := at_ ("InvalidNumbering", k2) (.tail _ (.tail _ (.head _)))
  have e_InvalidPlace : xa "InvalidPlace" = k3 := at_ ("InvalidPlace", k3) (.tail _ (.tail _ (.tail _ (.head _))))
  have e_InvalidBegun : xa "InvalidBegun" = k4 := at_ ("InvalidBegun", k4) (.tail _ (.tail _ (.tail _ (.tail _ (.head _)))))
  have e_InvalidNumber : xa "InvalidNumber" = k5 := at_ ("InvalidNumber", k5) (.tail _ (.tail _ (.tail _ (.tail _ (.tail _ (.head _))))))
  have e_InvalidPair : xa "InvalidPair" = k6 := at_ ("InvalidPair", k6) (.tail _ (.tail _ (.tail _ (.tail _ (.tail _ (.tail _ (.head _)))))))
  have e_InvalidText : xa "InvalidText" = k7 := at_ ("InvalidText", k7) (.tail _ (.tail _ (.tail _ (.tail _ (.tail _ (.tail _ (.tail _ (.head _))))))))
  have e_NotGood : xa "NotGood" = k8 := at_ ("NotGood", k8) (.tail _ (.tail _ (.tail _ (.tail _ (.tail _ (.tail _ (.tail _ (.tail _ (.head _)))))))))
  have e_NoLines : xa "NoLines" = k9 := at_ ("NoLines", k9) (.tail _ (.tail _ (.tail _ (.tail _ (.tail _ (.tail _ (.tail _ (.tail _ (.tail _ (.head _))))))))))
  have e_TooMany : xa "TooMany" = k10 := at_ ("TooMany", k10) (.tail _ (.tail _ (.tail _ (.tail _ (.tail _ (.tail _ (.tail _ (.tail _ (.tail _ (.tail _ (.head _)))))))))))
  have e_AlreadyThere : xa "AlreadyThere" = k11 := at_ ("AlreadyThere", k11) (.tail _ (.tail _ (.tail _ (.tail _ (.tail _ (.tail _ (.tail _ (.tail _ (.tail _ (.tail _ (.tail _ (.head _))))))))))))
  have e_Taken : xa "Taken" = k12 := at_ ("Taken", k12) (.tail _ (.tail _ (.tail _ (.tail _ (.tail _ (.tail _ (.tail _ (.tail _ (.tail _ (.tail _ (.tail _ (.tail _ (.head _)))))))))))))
  have e_Equal : xa "Equal" = k13 := at_ ("Equal", k13) (.tail _ (.tail _ (.tail _ (.tail _ (.tail _ (.tail _ (.tail _ (.tail _ (.tail _ (.tail _ (.tail _ (.tail _ (.tail _ (.head _))))))))))))))
  have e_NotThere : xa "NotThere" = k14 := at_ ("NotThere", k14) (.tail _ (.tail _ (.tail _ (.tail _ (.tail _ (.tail _ (.tail _ (.tail _ (.tail _ (.tail _ (.tail _ (.tail _ (.tail _ (.tail _ (.head _)))))))))))))))
  have e_NothingToUndo : xa "NothingToUndo" = k15 := at_ ("NothingToUndo", k15) (.tail _ (.tail _ (.tail _ (.tail _ (.tail _ (.tail _ (.tail _ (.tail _ (.tail _ (.tail _ (.tail _ (.tail _ (.tail _ (.tail _ (.tail _ (.head _))))))))))))))))
  have gx : ∀ y ∈ kinds, mg y = some (.ref (xa y)) := by
    unfold kinds
    simp only [List.forall_mem_cons]
    refine ⟨by rw [e_InvalidWeb]; exact PySem.W.mg_of KX G g_InvalidWeb, by rw [e_InvalidNumbering]; exact PySem.W.mg_of KX G g_InvalidNumbering, by rw [e_InvalidPlace]; exact PySem.W.mg_of KX G g_InvalidPlace, by rw [e_InvalidBegun]; exact PySem.W.mg_of KX G g_InvalidBegun, by rw [e_InvalidNumber]; exact PySem.W.mg_of KX G g_InvalidNumber, by rw [e_InvalidPair]; exact PySem.W.mg_of KX G g_InvalidPair, by rw [e_InvalidText]; exact PySem.W.mg_of KX G g_InvalidText, by rw [e_NotGood]; exact PySem.W.mg_of KX G g_NotGood, by rw [e_NoLines]; exact PySem.W.mg_of KX G g_NoLines, by rw [e_TooMany]; exact PySem.W.mg_of KX G g_TooMany, by rw [e_AlreadyThere]; exact PySem.W.mg_of KX G g_AlreadyThere, by rw [e_Taken]; exact PySem.W.mg_of KX G g_Taken, by rw [e_Equal]; exact PySem.W.mg_of KX G g_Equal, by rw [e_NotThere]; exact PySem.W.mg_of KX G g_NotThere, by rw [e_NothingToUndo]; exact PySem.W.mg_of KX G g_NothingToUndo, fun _ h => by cases h⟩
  have hl : mg "LineError" = some (.ref (xa "LineError")) := by rw [e_LineError]; exact PySem.W.mg_of KX G g_LineError
  have x_InvalidWeb : Xc K mg "InvalidWeb" (xa "InvalidWeb") := by rw [e_InvalidWeb]; exact ⟨PySem.W.mg_of KX G g_InvalidWeb, x_InvalidWeb.q, x_InvalidWeb.k, x_InvalidWeb.b, x_InvalidWeb.t⟩
  have x_InvalidPlace : Xc K mg "InvalidPlace" (xa "InvalidPlace") := by rw [e_InvalidPlace]; exact ⟨PySem.W.mg_of KX G g_InvalidPlace, x_InvalidPlace.q, x_InvalidPlace.k, x_InvalidPlace.b, x_InvalidPlace.t⟩
  have x_InvalidNumber : Xc K mg "InvalidNumber" (xa "InvalidNumber") := by rw [e_InvalidNumber]; exact ⟨PySem.W.mg_of KX G g_InvalidNumber, x_InvalidNumber.q, x_InvalidNumber.k, x_InvalidNumber.b, x_InvalidNumber.t⟩
  have x_AlreadyThere : Xc K mg "AlreadyThere" (xa "AlreadyThere") := by rw [e_AlreadyThere]; exact ⟨PySem.W.mg_of KX G g_AlreadyThere, x_AlreadyThere.q, x_AlreadyThere.k, x_AlreadyThere.b, x_AlreadyThere.t⟩
  have x_Taken : Xc K mg "Taken" (xa "Taken") := by rw [e_Taken]; exact ⟨PySem.W.mg_of KX G g_Taken, x_Taken.q, x_Taken.k, x_Taken.b, x_Taken.t⟩
  have x_Equal : Xc K mg "Equal" (xa "Equal") := by rw [e_Equal]; exact ⟨PySem.W.mg_of KX G g_Equal, x_Equal.q, x_Equal.k, x_Equal.b, x_Equal.t⟩
  have x_InvalidNumbering : Xc K mg "InvalidNumbering" (xa "InvalidNumbering") := by rw [e_InvalidNumbering]; exact ⟨PySem.W.mg_of KX G g_InvalidNumbering, x_InvalidNumbering.q, x_InvalidNumbering.k, x_InvalidNumbering.b, x_InvalidNumbering.t⟩
  have x_InvalidBegun : Xc K mg "InvalidBegun" (xa "InvalidBegun") := by rw [e_InvalidBegun]; exact ⟨PySem.W.mg_of KX G g_InvalidBegun, x_InvalidBegun.q, x_InvalidBegun.k, x_InvalidBegun.b, x_InvalidBegun.t⟩
  have x_InvalidPair : Xc K mg "InvalidPair" (xa "InvalidPair") := by rw [e_InvalidPair]; exact ⟨PySem.W.mg_of KX G g_InvalidPair, x_InvalidPair.q, x_InvalidPair.k, x_InvalidPair.b, x_InvalidPair.t⟩
  have x_InvalidText : Xc K mg "InvalidText" (xa "InvalidText") := by rw [e_InvalidText]; exact ⟨PySem.W.mg_of KX G g_InvalidText, x_InvalidText.q, x_InvalidText.k, x_InvalidText.b, x_InvalidText.t⟩
  have x_NotGood : Xc K mg "NotGood" (xa "NotGood") := by rw [e_NotGood]; exact ⟨PySem.W.mg_of KX G g_NotGood, x_NotGood.q, x_NotGood.k, x_NotGood.b, x_NotGood.t⟩
  have x_NoLines : Xc K mg "NoLines" (xa "NoLines") := by rw [e_NoLines]; exact ⟨PySem.W.mg_of KX G g_NoLines, x_NoLines.q, x_NoLines.k, x_NoLines.b, x_NoLines.t⟩
  have x_TooMany : Xc K mg "TooMany" (xa "TooMany") := by rw [e_TooMany]; exact ⟨PySem.W.mg_of KX G g_TooMany, x_TooMany.q, x_TooMany.k, x_TooMany.b, x_TooMany.t⟩
  have x_NotThere : Xc K mg "NotThere" (xa "NotThere") := by rw [e_NotThere]; exact ⟨PySem.W.mg_of KX G g_NotThere, x_NotThere.q, x_NotThere.k, x_NotThere.b, x_NotThere.t⟩
  have x_NothingToUndo : Xc K mg "NothingToUndo" (xa "NothingToUndo") := by rw [e_NothingToUndo]; exact ⟨PySem.W.mg_of KX G g_NothingToUndo, x_NothingToUndo.q, x_NothingToUndo.k, x_NothingToUndo.b, x_NothingToUndo.t⟩
  have tt_InvalidWeb : Tt K xa "InvalidWeb" := tt_of t_InvalidWeb (by decide) (by decide +kernel) e_InvalidWeb e_LineError (fun p hp => at_ p (.tail _ hp)) rfl
  have tt_InvalidNumbering : Tt K xa "InvalidNumbering" := tt_of t_InvalidNumbering (by decide) (by decide +kernel) e_InvalidNumbering e_LineError (fun p hp => at_ p (.tail _ hp)) rfl
  have tt_InvalidPlace : Tt K xa "InvalidPlace" := tt_of t_InvalidPlace (by decide) (by decide +kernel) e_InvalidPlace e_LineError (fun p hp => at_ p (.tail _ hp)) rfl
  have tt_InvalidBegun : Tt K xa "InvalidBegun" := tt_of t_InvalidBegun (by decide) (by decide +kernel) e_InvalidBegun e_LineError (fun p hp => at_ p (.tail _ hp)) rfl
  have tt_InvalidNumber : Tt K xa "InvalidNumber" := tt_of t_InvalidNumber (by decide) (by decide +kernel) e_InvalidNumber e_LineError (fun p hp => at_ p (.tail _ hp)) rfl
  have tt_InvalidPair : Tt K xa "InvalidPair" := tt_of t_InvalidPair (by decide) (by decide +kernel) e_InvalidPair e_LineError (fun p hp => at_ p (.tail _ hp)) rfl
  have tt_InvalidText : Tt K xa "InvalidText" := tt_of t_InvalidText (by decide) (by decide +kernel) e_InvalidText e_LineError (fun p hp => at_ p (.tail _ hp)) rfl
  have tt_NotGood : Tt K xa "NotGood" := tt_of t_NotGood (by decide) (by decide +kernel) e_NotGood e_LineError (fun p hp => at_ p (.tail _ hp)) rfl
  have tt_NoLines : Tt K xa "NoLines" := tt_of t_NoLines (by decide) (by decide +kernel) e_NoLines e_LineError (fun p hp => at_ p (.tail _ hp)) rfl
  have tt_TooMany : Tt K xa "TooMany" := tt_of t_TooMany (by decide) (by decide +kernel) e_TooMany e_LineError (fun p hp => at_ p (.tail _ hp)) rfl
  have tt_AlreadyThere : Tt K xa "AlreadyThere" := tt_of t_AlreadyThere (by decide) (by decide +kernel) e_AlreadyThere e_LineError (fun p hp => at_ p (.tail _ hp)) rfl
  have tt_Taken : Tt K xa "Taken" := tt_of t_Taken (by decide) (by decide +kernel) e_Taken e_LineError (fun p hp => at_ p (.tail _ hp)) rfl
  have tt_Equal : Tt K xa "Equal" := tt_of t_Equal (by decide) (by decide +kernel) e_Equal e_LineError (fun p hp => at_ p (.tail _ hp)) rfl
  have tt_NotThere : Tt K xa "NotThere" := tt_of t_NotThere (by decide) (by decide +kernel) e_NotThere e_LineError (fun p hp => at_ p (.tail _ hp)) rfl
  have tt_NothingToUndo : Tt K xa "NothingToUndo" := tt_of t_NothingToUndo (by decide) (by decide +kernel) e_NothingToUndo e_LineError (fun p hp => at_ p (.tail _ hp)) rfl
  have c__law_cell : Cal P0 w K mg base 1 "_law_cell" ["script", "k"] (spCellU K) := ok_law_cell F_law_cell B
  have c__law_rounds : Cal P0 w K mg base 2 "_law_rounds" ["script", "most"] (spRounds K) := ok_law_rounds F_law_rounds B c__law_cell
  have c_is_whole : Cal P0 w K mg base 1 "is_whole" ["value", "low", "high"] (spP R_is_whole) := ok_is_whole F_is_whole B
  have c_is_pair : Cal P0 w K mg base 2 "is_pair" ["value", "high"] (spP R_is_pair) := ok_is_pair F_is_pair B c_is_whole
  have c_is_web : Cal P0 w K mg base 3 "is_web" ["value"] (spP R_is_web) := ok_is_web F_is_web B c_is_whole c_is_pair
  have c_need_web : Cal P0 w K mg base 4 "need_web" ["web"] (spP (R_need_web xa)) := ok_need_web F_need_web B x_InvalidWeb c_is_web
  have c_Desk___init__ : CalM P0 w K mg base 5 Cd "__init__" ["self", "web"] (spM Cd (R_Desk___init__ xa)) := ok_Desk___init__ F_Desk___init__ B dk c_need_web
  have mk_Desk : MkC P0 w K mg base 5 "Desk" Cd ["self", "web"] _ := ⟨c_Desk___init__, dkf.ms, dkf.kp, PySem.W.mg_of KX G g_Desk⟩
  have c__law_drawn : Cal P0 w K mg base 1 "_law_drawn" ["cell", "k"] (spP R_law_drawn) := ok_law_drawn F_law_drawn B
  have c__law_roll : Cal P0 w K mg base 2 "_law_roll" ["dice", "many"] (spO R_law_roll) := ok_law_roll F_law_roll B c__law_drawn
  have c_need_place : Cal P0 w K mg base 2 "need_place" ["web", "place"] (spP (R_need_place xa)) := ok_need_place F_need_place B x_InvalidPlace c_is_whole
  have c_top_of : Cal P0 w K mg base 1 "top_of" ["web"] (spP R_top_of) := ok_top_of F_top_of B
  have c_known_lines : Cal P0 w K mg base 1 "known_lines" ["web", "numbers"] (spP R_known_lines) := ok_known_lines F_known_lines B
  have c_with_number : Cal P0 w K mg base 1 "with_number" ["numbers", "place", "number"] (spP R_with_number) := ok_with_number F_with_number B
  have c_is_fitting : Cal P0 w K mg base 2 "is_fitting" ["web", "numbers", "place", "number"] (spP R_is_fitting) := ok_is_fitting F_is_fitting B c_known_lines c_with_number
  have c_Desk_change : CalM P0 w K mg base 1 Cd "change" ["self", "numbers"] (spM Cd R_Desk_change) := ok_Desk_change F_Desk_change B dk
  have c_Desk_put : CalM P0 w K mg base 3 Cd "put" ["self", "place", "number"] (spM Cd (R_Desk_put xa)) := ok_Desk_put F_Desk_put B x_InvalidNumber x_AlreadyThere x_Taken x_Equal dk c_need_place c_is_whole c_top_of c_is_fitting c_Desk_change c_with_number
  have c_first_good : Cal P0 w K mg base 5 "first_good" ["web"] (spP (R_first_good xa)) := ok_first_good F_first_good B c_need_web
  have c_are_unlike : Cal P0 w K mg base 2 "are_unlike" ["value", "most", "top"] (spP R_are_unlike) := ok_are_unlike F_are_unlike B c_is_whole
  have c_fits_top : Cal P0 w K mg base 3 "fits_top" ["web", "top", "value"] (spP R_fits_top) := ok_fits_top F_fits_top B c_are_unlike
  have c_need_numbering : Cal P0 w K mg base 5 "need_numbering" ["web", "numbering"] (spP (R_need_numbering xa)) := ok_need_numbering F_need_numbering B x_InvalidNumbering c_need_web c_fits_top c_top_of
  have c_line_numbers : Cal P0 w K mg base 6 "line_numbers" ["web", "numbering"] (spP (R_line_numbers xa)) := ok_line_numbers F_line_numbers B c_need_numbering
  have c_possible_numbers : Cal P0 w K mg base 5 "possible_numbers" ["web", "place"] (spP (R_possible_numbers xa)) := ok_possible_numbers F_possible_numbers B c_need_web c_need_place
  have c_completed : Cal P0 w K mg base 5 "completed" ["web", "begun"] (spP (R_completed xa)) := ok_completed F_completed B x_InvalidBegun c_need_web c_are_unlike c_top_of
  have c_need_both : Cal P0 w K mg base 5 "need_both" ["web", "top"] (spP (R_need_both xa)) := ok_need_both F_need_both B x_InvalidNumber c_need_web c_is_whole
  have c_first_with_top : Cal P0 w K mg base 6 "first_with_top" ["web", "top"] (spP (R_first_with_top xa)) := ok_first_with_top F_first_with_top B c_need_both
  have c_turn_of : Cal P0 w K mg base 6 "turn_of" ["web", "numbering", "pair"] (spP (R_turn_of xa)) := ok_turn_of F_turn_of B x_InvalidPair c_need_numbering c_is_pair c_top_of
  have c_digit : Cal P0 w K mg base 1 "digit" ["text"] (spP (R_digit xa)) := ok_digit F_digit B x_InvalidText
  have c_line_of : Cal P0 w K mg base 2 "line_of" ["word"] (spP (R_line_of xa)) := ok_line_of F_line_of B x_InvalidText c_digit
  have c_parse_web : Cal P0 w K mg base 4 "parse_web" ["text"] (spP (R_parse_web xa)) := ok_parse_web F_parse_web B x_InvalidText c_line_of c_digit c_is_web
  have c_numbers_of_lines : Cal P0 w K mg base 1 "numbers_of_lines" ["web", "numbering"] (spP R_numbers_of_lines) := ok_numbers_of_lines F_numbers_of_lines B
  have c_all_differ : Cal P0 w K mg base 2 "all_differ" ["web", "numbering"] (spP R_all_differ) := ok_all_differ F_all_differ B c_numbers_of_lines
  have c_need_good : Cal P0 w K mg base 3 "need_good" ["web", "numbering"] (spP (R_need_good xa)) := ok_need_good F_need_good B x_NotGood c_all_differ
  have c_copy_at : Cal P0 w K mg base 6 "copy_at" ["web", "numbering", "turn"] (spP (R_copy_at xa)) := ok_copy_at F_copy_at B x_InvalidNumber c_need_numbering c_is_whole c_top_of c_need_good
  have c_need_lines : Cal P0 w K mg base 5 "need_lines" ["web"] (spP (R_need_lines xa)) := ok_need_lines F_need_lines B x_NoLines c_need_web
  have c_first_sum_good : Cal P0 w K mg base 6 "first_sum_good" ["web"] (spP (R_first_sum_good xa)) := ok_first_sum_good F_first_sum_good B c_need_lines
  have c_need_few : Cal P0 w K mg base 2 "need_few" ["web"] (spP (R_need_few xa)) := ok_need_few F_need_few B x_TooMany c_top_of
  have c_count_good : Cal P0 w K mg base 5 "count_good" ["web"] (spP (R_count_good xa)) := ok_count_good F_count_good B c_need_web c_need_few
  have c__law_pairs : Cal P0 w K mg base 1 "_law_pairs" ["many"] (spP R_law_pairs) := ok_law_pairs F_law_pairs B
  have c_Desk_take : CalM P0 w K mg base 3 Cd "take" ["self", "place"] (spM Cd (R_Desk_take xa)) := ok_Desk_take F_Desk_take B x_NotThere dk c_need_place c_Desk_change c_with_number
  have c_Desk_redo : CalM P0 w K mg base 1 Cd "redo" ["self"] (spM Cd (R_Desk_redo xa)) := ok_Desk_redo F_Desk_redo B x_NothingToUndo dk
  have tts : ∀ x ∈ kinds, Tt K xa x := by
    unfold kinds
    simp only [List.forall_mem_cons]
    exact ⟨tt_InvalidWeb, tt_InvalidNumbering, tt_InvalidPlace, tt_InvalidBegun, tt_InvalidNumber, tt_InvalidPair, tt_InvalidText, tt_NotGood, tt_NoLines, tt_TooMany, tt_AlreadyThere, tt_Taken, tt_Equal, tt_NotThere, tt_NothingToUndo, fun _ h => by cases h⟩
  have c__law_alone : Cal P0 w K mg base 1 "_law_alone" ["e", "own"] (spA xa) := ok_law_alone F_law_alone B gx tts
  exact ok_law lk hcd B F_law_met hl TB tt_InvalidWeb tt_InvalidNumbering tt_InvalidPlace tt_InvalidBegun tt_InvalidNumber tt_InvalidPair tt_InvalidText tt_NotGood tt_NoLines tt_TooMany tt_AlreadyThere tt_Taken tt_Equal tt_NotThere tt_NothingToUndo dk c__law_rounds mk_Desk c__law_roll c_Desk_put c_first_good c_line_numbers c_possible_numbers c_completed c_first_with_top c_turn_of c_parse_web c_copy_at c_first_sum_good c_count_good c__law_pairs c_Desk_take c_Desk_redo c__law_alone
end
end U
open PySem PySem.W PyProof.Rows
set_option maxRecDepth 100000 in
set_option maxHeartbeats 0 in
theorem PySem.Challenge.cw_unlikelines_k21_errors_apart_holds : PySem.Challenge.rw_unlikelines_k21_errors_apart.Holds := by
  w_on; o_law; k_head; (case hw => w_witness2)
  k_fill
  refine DL.walkT (l := PySem.Challenge.rw_unlikelines_k21_errors_apart) (k := 9) rfl rfl ⟨rfl, by decide, by decide⟩ ?F
  case F =>
    intro w mg fa h KX G hmg
    have hfa : ∀ {f2 : Addr}, PySem.W.nsIn _ mainGlobals "law" = some (some (.ref f2)) → fa = f2 := fun e => by
      have z := hmg.symm.trans (PySem.W.mg_of KX G e)
      cases z
      rfl
    have hfa2 := hfa (by k_is)
    clear hfa
    subst hfa2
    refine' U.law_mk KX G ?B ?lk ?hcd ?htab ?hP ?g_LineError ?g_InvalidWeb ?g_InvalidNumbering ?g_InvalidPlace ?g_InvalidBegun ?g_InvalidNumber ?g_InvalidPair ?g_InvalidText ?g_NotGood ?g_NoLines ?g_TooMany ?g_AlreadyThere ?g_Taken ?g_Equal ?g_NotThere ?g_NothingToUndo ?g_Desk ?dkf ?x_InvalidWeb ?x_InvalidPlace ?x_InvalidNumber ?x_AlreadyThere ?x_Taken ?x_Equal ?x_InvalidNumbering ?x_InvalidBegun ?x_InvalidPair ?x_InvalidText ?x_NotGood ?x_NoLines ?x_TooMany ?x_NotThere ?x_NothingToUndo ?t_InvalidWeb ?t_InvalidNumbering ?t_InvalidPlace ?t_InvalidBegun ?t_InvalidNumber ?t_InvalidPair ?t_InvalidText ?t_NotGood ?t_NoLines ?t_TooMany ?t_AlreadyThere ?t_Taken ?t_Equal ?t_NotThere ?t_NothingToUndo ?F_law_cell ?F_law_rounds ?F_is_whole ?F_is_pair ?F_is_web ?F_need_web ?F_Desk___init__ ?F_law_drawn ?F_law_roll ?F_need_place ?F_top_of ?F_known_lines ?F_with_number ?F_is_fitting ?F_Desk_change ?F_Desk_put ?F_first_good ?F_are_unlike ?F_fits_top ?F_need_numbering ?F_line_numbers ?F_possible_numbers ?F_completed ?F_need_both ?F_first_with_top ?F_turn_of ?F_digit ?F_line_of ?F_parse_web ?F_numbers_of_lines ?F_all_differ ?F_need_good ?F_copy_at ?F_need_lines ?F_first_sum_good ?F_need_few ?F_count_good ?F_law_pairs ?F_Desk_take ?F_Desk_redo ?F_law_alone ?F_law_met
    (case lk => k_is); (case hcd => k_is); (case htab => kernel_rfl); (case hP => kernel_rfl)
    (case g_LineError => k_is)
    (case g_InvalidWeb => k_is)
    (case g_InvalidNumbering => k_is)
    (case g_InvalidPlace => k_is)
    (case g_InvalidBegun => k_is)
    (case g_InvalidNumber => k_is)
    (case g_InvalidPair => k_is)
    (case g_InvalidText => k_is)
    (case g_NotGood => k_is)
    (case g_NoLines => k_is)
    (case g_TooMany => k_is)
    (case g_AlreadyThere => k_is)
    (case g_Taken => k_is)
    (case g_Equal => k_is)
    (case g_NotThere => k_is)
    (case g_NothingToUndo => k_is)
    (case g_Desk => k_is)
    case dkf =>
      refine' U.dkf_mk ?a1 ?a2 ?a3 ?a4 ?b1 ?b2 ?b3 ?b4 ?c1 ?c2
      (case a1 => first | k_is | kernel_rfl)
      (case a2 => first | k_is | kernel_rfl)
      (case a3 => first | k_is | kernel_rfl)
      (case a4 => first | k_is | kernel_rfl)
      (case b1 => first | k_is | kernel_rfl)
      (case b2 => first | k_is | kernel_rfl)
      (case b3 => first | k_is | kernel_rfl)
      (case b4 => first | k_is | kernel_rfl)
      (case c1 => first | k_is | kernel_rfl)
      (case c2 => first | k_is | kernel_rfl)
    case B =>
      refine' U.bt_mk KX G ?z0 ?z1 ?z2 ?z3 ?z4 ?z5 ?z6 ?z7 ?z8 ?z9 ?z10 ?z11 ?z12 ?z13 ?z14 ?z15 ?z16
      (case z0 => k_is)
      (case z1 => k_is)
      (case z2 => k_is)
      (case z3 => k_is)
      (case z4 => k_is)
      (case z5 => k_is)
      (case z6 => k_is)
      (case z7 => k_is)
      (case z8 => k_is)
      (case z9 => k_is)
      (case z10 => k_is)
      (case z11 => k_is)
      (case z12 => k_is)
      (case z13 => k_is)
      (case z14 => k_is)
      (case z15 => k_is)
      (case z16 => k_is)
    case x_InvalidWeb =>
      refine' U.XcF.mk ?xq1 ?xk1 ?xb1 ?xt1
      (case xq1 => first | k_exc | k_is); (case xk1 => k_is); (case xb1 => k_is); (case xt1 => k_is)
    case x_InvalidPlace =>
      refine' U.XcF.mk ?xq1 ?xk1 ?xb1 ?xt1
      (case xq1 => first | k_exc | k_is); (case xk1 => k_is); (case xb1 => k_is); (case xt1 => k_is)
    case x_InvalidNumber =>
      refine' U.XcF.mk ?xq1 ?xk1 ?xb1 ?xt1
      (case xq1 => first | k_exc | k_is); (case xk1 => k_is); (case xb1 => k_is); (case xt1 => k_is)
    case x_AlreadyThere =>
      refine' U.XcF.mk ?xq1 ?xk1 ?xb1 ?xt1
      (case xq1 => first | k_exc | k_is); (case xk1 => k_is); (case xb1 => k_is); (case xt1 => k_is)
    case x_Taken =>
      refine' U.XcF.mk ?xq1 ?xk1 ?xb1 ?xt1
      (case xq1 => first | k_exc | k_is); (case xk1 => k_is); (case xb1 => k_is); (case xt1 => k_is)
    case x_Equal =>
      refine' U.XcF.mk ?xq1 ?xk1 ?xb1 ?xt1
      (case xq1 => first | k_exc | k_is); (case xk1 => k_is); (case xb1 => k_is); (case xt1 => k_is)
    case x_InvalidNumbering =>
      refine' U.XcF.mk ?xq1 ?xk1 ?xb1 ?xt1
      (case xq1 => first | k_exc | k_is); (case xk1 => k_is); (case xb1 => k_is); (case xt1 => k_is)
    case x_InvalidBegun =>
      refine' U.XcF.mk ?xq1 ?xk1 ?xb1 ?xt1
      (case xq1 => first | k_exc | k_is); (case xk1 => k_is); (case xb1 => k_is); (case xt1 => k_is)
    case x_InvalidPair =>
      refine' U.XcF.mk ?xq1 ?xk1 ?xb1 ?xt1
      (case xq1 => first | k_exc | k_is); (case xk1 => k_is); (case xb1 => k_is); (case xt1 => k_is)
    case x_InvalidText =>
      refine' U.XcF.mk ?xq1 ?xk1 ?xb1 ?xt1
      (case xq1 => first | k_exc | k_is); (case xk1 => k_is); (case xb1 => k_is); (case xt1 => k_is)
    case x_NotGood =>
      refine' U.XcF.mk ?xq1 ?xk1 ?xb1 ?xt1
      (case xq1 => first | k_exc | k_is); (case xk1 => k_is); (case xb1 => k_is); (case xt1 => k_is)
    case x_NoLines =>
      refine' U.XcF.mk ?xq1 ?xk1 ?xb1 ?xt1
      (case xq1 => first | k_exc | k_is); (case xk1 => k_is); (case xb1 => k_is); (case xt1 => k_is)
    case x_TooMany =>
      refine' U.XcF.mk ?xq1 ?xk1 ?xb1 ?xt1
      (case xq1 => first | k_exc | k_is); (case xk1 => k_is); (case xb1 => k_is); (case xt1 => k_is)
    case x_NotThere =>
      refine' U.XcF.mk ?xq1 ?xk1 ?xb1 ?xt1
      (case xq1 => first | k_exc | k_is); (case xk1 => k_is); (case xb1 => k_is); (case xt1 => k_is)
    case x_NothingToUndo =>
      refine' U.XcF.mk ?xq1 ?xk1 ?xb1 ?xt1
      (case xq1 => first | k_exc | k_is); (case xk1 => k_is); (case xb1 => k_is); (case xt1 => k_is)
    case t_InvalidWeb =>
      refine' U.ttf_mk ?a1 ?a2 ?a3 ?a4 ?a5 ?a6 ?a7 ?a8 ?a9 ?a10 ?b0 ?b1 ?b2 ?b3 ?b4 ?b5 ?b6 ?b7 ?b8 ?b9 ?b10 ?b11 ?b12 ?b13 ?b14
      (case a1 => first | k_is | kernel_rfl)
      (case a2 => first | k_is | kernel_rfl)
      (case a3 => first | k_is | kernel_rfl)
      (case a4 => first | k_is | kernel_rfl)
      (case a5 => first | k_is | kernel_rfl)
      (case a6 => first | k_is | kernel_rfl)
      (case a7 => first | k_is | kernel_rfl)
      (case a8 => first | k_is | kernel_rfl)
      (case a9 => first | k_is | kernel_rfl)
      (case a10 => first | k_is | kernel_rfl)
      (case b0 => kernel_rfl)
      (case b1 => kernel_rfl)
      (case b2 => kernel_rfl)
      (case b3 => kernel_rfl)
      (case b4 => kernel_rfl)
      (case b5 => kernel_rfl)
      (case b6 => kernel_rfl)
      (case b7 => kernel_rfl)
      (case b8 => kernel_rfl)
      (case b9 => kernel_rfl)
      (case b10 => kernel_rfl)
      (case b11 => kernel_rfl)
      (case b12 => kernel_rfl)
      (case b13 => kernel_rfl)
      (case b14 => kernel_rfl)
    case t_InvalidNumbering =>
      refine' U.ttf_mk ?a1 ?a2 ?a3 ?a4 ?a5 ?a6 ?a7 ?a8 ?a9 ?a10 ?b0 ?b1 ?b2 ?b3 ?b4 ?b5 ?b6 ?b7 ?b8 ?b9 ?b10 ?b11 ?b12 ?b13 ?b14
      (case a1 => first | k_is | kernel_rfl)
      (case a2 => first | k_is | kernel_rfl)
      (case a3 => first | k_is | kernel_rfl)
      (case a4 => first | k_is | kernel_rfl)
      (case a5 => first | k_is | kernel_rfl)
      (case a6 => first | k_is | kernel_rfl)
      (case a7 => first | k_is | kernel_rfl)
      (case a8 => first | k_is | kernel_rfl)
      (case a9 => first | k_is | kernel_rfl)
      (case a10 => first | k_is | kernel_rfl)
      (case b0 => kernel_rfl)
      (case b1 => kernel_rfl)
      (case b2 => kernel_rfl)
      (case b3 => kernel_rfl)
      (case b4 => kernel_rfl)
      (case b5 => kernel_rfl)
      (case b6 => kernel_rfl)
      (case b7 => kernel_rfl)
      (case b8 => kernel_rfl)
      (case b9 => kernel_rfl)
      (case b10 => kernel_rfl)
      (case b11 => kernel_rfl)
      (case b12 => kernel_rfl)
      (case b13 => kernel_rfl)
      (case b14 => kernel_rfl)
    case t_InvalidPlace =>
      refine' U.ttf_mk ?a1 ?a2 ?a3 ?a4 ?a5 ?a6 ?a7 ?a8 ?a9 ?a10 ?b0 ?b1 ?b2 ?b3 ?b4 ?b5 ?b6 ?b7 ?b8 ?b9 ?b10 ?b11 ?b12 ?b13 ?b14
      (case a1 => first | k_is | kernel_rfl)
      (case a2 => first | k_is | kernel_rfl)
      (case a3 => first | k_is | kernel_rfl)
      (case a4 => first | k_is | kernel_rfl)
      (case a5 => first | k_is | kernel_rfl)
      (case a6 => first | k_is | kernel_rfl)
      (case a7 => first | k_is | kernel_rfl)
      (case a8 => first | k_is | kernel_rfl)
      (case a9 => first | k_is | kernel_rfl)
      (case a10 => first | k_is | kernel_rfl)
      (case b0 => kernel_rfl)
      (case b1 => kernel_rfl)
      (case b2 => kernel_rfl)
      (case b3 => kernel_rfl)
      (case b4 => kernel_rfl)
      (case b5 => kernel_rfl)
      (case b6 => kernel_rfl)
      (case b7 => kernel_rfl)
      (case b8 => kernel_rfl)
      (case b9 => kernel_rfl)
      (case b10 => kernel_rfl)
      (case b11 => kernel_rfl)
      (case b12 => kernel_rfl)
      (case b13 => kernel_rfl)
      (case b14 => kernel_rfl)
    case t_InvalidBegun =>
      refine' U.ttf_mk ?a1 ?a2 ?a3 ?a4 ?a5 ?a6 ?a7 ?a8 ?a9 ?a10 ?b0 ?b1 ?b2 ?b3 ?b4 ?b5 ?b6 ?b7 ?b8 ?b9 ?b10 ?b11 ?b12 ?b13 ?b14
      (case a1 => first | k_is | kernel_rfl)
      (case a2 => first | k_is | kernel_rfl)
      (case a3 => first | k_is | kernel_rfl)
      (case a4 => first | k_is | kernel_rfl)
      (case a5 => first | k_is | kernel_rfl)
      (case a6 => first | k_is | kernel_rfl)
      (case a7 => first | k_is | kernel_rfl)
      (case a8 => first | k_is | kernel_rfl)
      (case a9 => first | k_is | kernel_rfl)
      (case a10 => first | k_is | kernel_rfl)
      (case b0 => kernel_rfl)
      (case b1 => kernel_rfl)
      (case b2 => kernel_rfl)
      (case b3 => kernel_rfl)
      (case b4 => kernel_rfl)
      (case b5 => kernel_rfl)
      (case b6 => kernel_rfl)
      (case b7 => kernel_rfl)
      (case b8 => kernel_rfl)
      (case b9 => kernel_rfl)
      (case b10 => kernel_rfl)
      (case b11 => kernel_rfl)
      (case b12 => kernel_rfl)
      (case b13 => kernel_rfl)
      (case b14 => kernel_rfl)
    case t_InvalidNumber =>
      refine' U.ttf_mk ?a1 ?a2 ?a3 ?a4 ?a5 ?a6 ?a7 ?a8 ?a9 ?a10 ?b0 ?b1 ?b2 ?b3 ?b4 ?b5 ?b6 ?b7 ?b8 ?b9 ?b10 ?b11 ?b12 ?b13 ?b14
      (case a1 => first | k_is | kernel_rfl)
      (case a2 => first | k_is | kernel_rfl)
      (case a3 => first | k_is | kernel_rfl)
      (case a4 => first | k_is | kernel_rfl)
      (case a5 => first | k_is | kernel_rfl)
      (case a6 => first | k_is | kernel_rfl)
      (case a7 => first | k_is | kernel_rfl)
      (case a8 => first | k_is | kernel_rfl)
      (case a9 => first | k_is | kernel_rfl)
      (case a10 => first | k_is | kernel_rfl)
      (case b0 => kernel_rfl)
      (case b1 => kernel_rfl)
      (case b2 => kernel_rfl)
      (case b3 => kernel_rfl)
      (case b4 => kernel_rfl)
      (case b5 => kernel_rfl)
      (case b6 => kernel_rfl)
      (case b7 => kernel_rfl)
      (case b8 => kernel_rfl)
      (case b9 => kernel_rfl)
      (case b10 => kernel_rfl)
      (case b11 => kernel_rfl)
      (case b12 => kernel_rfl)
      (case b13 => kernel_rfl)
      (case b14 => kernel_rfl)
    case t_InvalidPair =>
      refine' U.ttf_mk ?a1 ?a2 ?a3 ?a4 ?a5 ?a6 ?a7 ?a8 ?a9 ?a10 ?b0 ?b1 ?b2 ?b3 ?b4 ?b5 ?b6 ?b7 ?b8 ?b9 ?b10 ?b11 ?b12 ?b13 ?b14
      (case a1 => first | k_is | kernel_rfl)
      (case a2 => first | k_is | kernel_rfl)
      (case a3 => first | k_is | kernel_rfl)
      (case a4 => first | k_is | kernel_rfl)
      (case a5 => first | k_is | kernel_rfl)
      (case a6 => first | k_is | kernel_rfl)
      (case a7 => first | k_is | kernel_rfl)
      (case a8 => first | k_is | kernel_rfl)
      (case a9 => first | k_is | kernel_rfl)
      (case a10 => first | k_is | kernel_rfl)
      (case b0 => kernel_rfl)
      (case b1 => kernel_rfl)
      (case b2 => kernel_rfl)
      (case b3 => kernel_rfl)
      (case b4 => kernel_rfl)
      (case b5 => kernel_rfl)
      (case b6 => kernel_rfl)
      (case b7 => kernel_rfl)
      (case b8 => kernel_rfl)
      (case b9 => kernel_rfl)
      (case b10 => kernel_rfl)
      (case b11 => kernel_rfl)
      (case b12 => kernel_rfl)
      (case b13 => kernel_rfl)
      (case b14 => kernel_rfl)
    case t_InvalidText =>
      refine' U.ttf_mk ?a1 ?a2 ?a3 ?a4 ?a5 ?a6 ?a7 ?a8 ?a9 ?a10 ?b0 ?b1 ?b2 ?b3 ?b4 ?b5 ?b6 ?b7 ?b8 ?b9 ?b10 ?b11 ?b12 ?b13 ?b14
      (case a1 => first | k_is | kernel_rfl)
      (case a2 => first | k_is | kernel_rfl)
      (case a3 => first | k_is | kernel_rfl)
      (case a4 => first | k_is | kernel_rfl)
      (case a5 => first | k_is | kernel_rfl)
      (case a6 => first | k_is | kernel_rfl)
      (case a7 => first | k_is | kernel_rfl)
      (case a8 => first | k_is | kernel_rfl)
      (case a9 => first | k_is | kernel_rfl)
      (case a10 => first | k_is | kernel_rfl)
      (case b0 => kernel_rfl)
      (case b1 => kernel_rfl)
      (case b2 => kernel_rfl)
      (case b3 => kernel_rfl)
      (case b4 => kernel_rfl)
      (case b5 => kernel_rfl)
      (case b6 => kernel_rfl)
      (case b7 => kernel_rfl)
      (case b8 => kernel_rfl)
      (case b9 => kernel_rfl)
      (case b10 => kernel_rfl)
      (case b11 => kernel_rfl)
      (case b12 => kernel_rfl)
      (case b13 => kernel_rfl)
      (case b14 => kernel_rfl)
    case t_NotGood =>
      refine' U.ttf_mk ?a1 ?a2 ?a3 ?a4 ?a5 ?a6 ?a7 ?a8 ?a9 ?a10 ?b0 ?b1 ?b2 ?b3 ?b4 ?b5 ?b6 ?b7 ?b8 ?b9 ?b10 ?b11 ?b12 ?b13 ?b14
      (case a1 => first | k_is | kernel_rfl)
      (case a2 => first | k_is | kernel_rfl)
      (case a3 => first | k_is | kernel_rfl)
      (case a4 => first | k_is | kernel_rfl)
      (case a5 => first | k_is | kernel_rfl)
      (case a6 => first | k_is | kernel_rfl)
      (case a7 => first | k_is | kernel_rfl)
      (case a8 => first | k_is | kernel_rfl)
      (case a9 => first | k_is | kernel_rfl)
      (case a10 => first | k_is | kernel_rfl)
      (case b0 => kernel_rfl)
      (case b1 => kernel_rfl)
      (case b2 => kernel_rfl)
      (case b3 => kernel_rfl)
      (case b4 => kernel_rfl)
      (case b5 => kernel_rfl)
      (case b6 => kernel_rfl)
      (case b7 => kernel_rfl)
      (case b8 => kernel_rfl)
      (case b9 => kernel_rfl)
      (case b10 => kernel_rfl)
      (case b11 => kernel_rfl)
      (case b12 => kernel_rfl)
      (case b13 => kernel_rfl)
      (case b14 => kernel_rfl)
    case t_NoLines =>
      refine' U.ttf_mk ?a1 ?a2 ?a3 ?a4 ?a5 ?a6 ?a7 ?a8 ?a9 ?a10 ?b0 ?b1 ?b2 ?b3 ?b4 ?b5 ?b6 ?b7 ?b8 ?b9 ?b10 ?b11 ?b12 ?b13 ?b14
      (case a1 => first | k_is | kernel_rfl)
      (case a2 => first | k_is | kernel_rfl)
      (case a3 => first | k_is | kernel_rfl)
      (case a4 => first | k_is | kernel_rfl)
      (case a5 => first | k_is | kernel_rfl)
      (case a6 => first | k_is | kernel_rfl)
      (case a7 => first | k_is | kernel_rfl)
      (case a8 => first | k_is | kernel_rfl)
      (case a9 => first | k_is | kernel_rfl)
      (case a10 => first | k_is | kernel_rfl)
      (case b0 => kernel_rfl)
      (case b1 => kernel_rfl)
      (case b2 => kernel_rfl)
      (case b3 => kernel_rfl)
      (case b4 => kernel_rfl)
      (case b5 => kernel_rfl)
      (case b6 => kernel_rfl)
      (case b7 => kernel_rfl)
      (case b8 => kernel_rfl)
      (case b9 => kernel_rfl)
      (case b10 => kernel_rfl)
      (case b11 => kernel_rfl)
      (case b12 => kernel_rfl)
      (case b13 => kernel_rfl)
      (case b14 => kernel_rfl)
    case t_TooMany =>
      refine' U.ttf_mk ?a1 ?a2 ?a3 ?a4 ?a5 ?a6 ?a7 ?a8 ?a9 ?a10 ?b0 ?b1 ?b2 ?b3 ?b4 ?b5 ?b6 ?b7 ?b8 ?b9 ?b10 ?b11 ?b12 ?b13 ?b14
      (case a1 => first | k_is | kernel_rfl)
      (case a2 => first | k_is | kernel_rfl)
      (case a3 => first | k_is | kernel_rfl)
      (case a4 => first | k_is | kernel_rfl)
      (case a5 => first | k_is | kernel_rfl)
      (case a6 => first | k_is | kernel_rfl)
      (case a7 => first | k_is | kernel_rfl)
      (case a8 => first | k_is | kernel_rfl)
      (case a9 => first | k_is | kernel_rfl)
      (case a10 => first | k_is | kernel_rfl)
      (case b0 => kernel_rfl)
      (case b1 => kernel_rfl)
      (case b2 => kernel_rfl)
      (case b3 => kernel_rfl)
      (case b4 => kernel_rfl)
      (case b5 => kernel_rfl)
      (case b6 => kernel_rfl)
      (case b7 => kernel_rfl)
      (case b8 => kernel_rfl)
      (case b9 => kernel_rfl)
      (case b10 => kernel_rfl)
      (case b11 => kernel_rfl)
      (case b12 => kernel_rfl)
      (case b13 => kernel_rfl)
      (case b14 => kernel_rfl)
    case t_AlreadyThere =>
      refine' U.ttf_mk ?a1 ?a2 ?a3 ?a4 ?a5 ?a6 ?a7 ?a8 ?a9 ?a10 ?b0 ?b1 ?b2 ?b3 ?b4 ?b5 ?b6 ?b7 ?b8 ?b9 ?b10 ?b11 ?b12 ?b13 ?b14
      (case a1 => first | k_is | kernel_rfl)
      (case a2 => first | k_is | kernel_rfl)
      (case a3 => first | k_is | kernel_rfl)
      (case a4 => first | k_is | kernel_rfl)
      (case a5 => first | k_is | kernel_rfl)
      (case a6 => first | k_is | kernel_rfl)
      (case a7 => first | k_is | kernel_rfl)
      (case a8 => first | k_is | kernel_rfl)
      (case a9 => first | k_is | kernel_rfl)
      (case a10 => first | k_is | kernel_rfl)
      (case b0 => kernel_rfl)
      (case b1 => kernel_rfl)
      (case b2 => kernel_rfl)
      (case b3 => kernel_rfl)
      (case b4 => kernel_rfl)
      (case b5 => kernel_rfl)
      (case b6 => kernel_rfl)
      (case b7 => kernel_rfl)
      (case b8 => kernel_rfl)
      (case b9 => kernel_rfl)
      (case b10 => kernel_rfl)
      (case b11 => kernel_rfl)
      (case b12 => kernel_rfl)
      (case b13 => kernel_rfl)
      (case b14 => kernel_rfl)
    case t_Taken =>
      refine' U.ttf_mk ?a1 ?a2 ?a3 ?a4 ?a5 ?a6 ?a7 ?a8 ?a9 ?a10 ?b0 ?b1 ?b2 ?b3 ?b4 ?b5 ?b6 ?b7 ?b8 ?b9 ?b10 ?b11 ?b12 ?b13 ?b14
      (case a1 => first | k_is | kernel_rfl)
      (case a2 => first | k_is | kernel_rfl)
      (case a3 => first | k_is | kernel_rfl)
      (case a4 => first | k_is | kernel_rfl)
      (case a5 => first | k_is | kernel_rfl)
      (case a6 => first | k_is | kernel_rfl)
      (case a7 => first | k_is | kernel_rfl)
      (case a8 => first | k_is | kernel_rfl)
      (case a9 => first | k_is | kernel_rfl)
      (case a10 => first | k_is | kernel_rfl)
      (case b0 => kernel_rfl)
      (case b1 => kernel_rfl)
      (case b2 => kernel_rfl)
      (case b3 => kernel_rfl)
      (case b4 => kernel_rfl)
      (case b5 => kernel_rfl)
      (case b6 => kernel_rfl)
      (case b7 => kernel_rfl)
      (case b8 => kernel_rfl)
      (case b9 => kernel_rfl)
      (case b10 => kernel_rfl)
      (case b11 => kernel_rfl)
      (case b12 => kernel_rfl)
      (case b13 => kernel_rfl)
      (case b14 => kernel_rfl)
    case t_Equal =>
      refine' U.ttf_mk ?a1 ?a2 ?a3 ?a4 ?a5 ?a6 ?a7 ?a8 ?a9 ?a10 ?b0 ?b1 ?b2 ?b3 ?b4 ?b5 ?b6 ?b7 ?b8 ?b9 ?b10 ?b11 ?b12 ?b13 ?b14
      (case a1 => first | k_is | kernel_rfl)
      (case a2 => first | k_is | kernel_rfl)
      (case a3 => first | k_is | kernel_rfl)
      (case a4 => first | k_is | kernel_rfl)
      (case a5 => first | k_is | kernel_rfl)
      (case a6 => first | k_is | kernel_rfl)
      (case a7 => first | k_is | kernel_rfl)
      (case a8 => first | k_is | kernel_rfl)
      (case a9 => first | k_is | kernel_rfl)
      (case a10 => first | k_is | kernel_rfl)
      (case b0 => kernel_rfl)
      (case b1 => kernel_rfl)
      (case b2 => kernel_rfl)
      (case b3 => kernel_rfl)
      (case b4 => kernel_rfl)
      (case b5 => kernel_rfl)
      (case b6 => kernel_rfl)
      (case b7 => kernel_rfl)
      (case b8 => kernel_rfl)
      (case b9 => kernel_rfl)
      (case b10 => kernel_rfl)
      (case b11 => kernel_rfl)
      (case b12 => kernel_rfl)
      (case b13 => kernel_rfl)
      (case b14 => kernel_rfl)
    case t_NotThere =>
      refine' U.ttf_mk ?a1 ?a2 ?a3 ?a4 ?a5 ?a6 ?a7 ?a8 ?a9 ?a10 ?b0 ?b1 ?b2 ?b3 ?b4 ?b5 ?b6 ?b7 ?b8 ?b9 ?b10 ?b11 ?b12 ?b13 ?b14
      (case a1 => first | k_is | kernel_rfl)
      (case a2 => first | k_is | kernel_rfl)
      (case a3 => first | k_is | kernel_rfl)
      (case a4 => first | k_is | kernel_rfl)
      (case a5 => first | k_is | kernel_rfl)
      (case a6 => first | k_is | kernel_rfl)
      (case a7 => first | k_is | kernel_rfl)
      (case a8 => first | k_is | kernel_rfl)
      (case a9 => first | k_is | kernel_rfl)
      (case a10 => first | k_is | kernel_rfl)
      (case b0 => kernel_rfl)
      (case b1 => kernel_rfl)
      (case b2 => kernel_rfl)
      (case b3 => kernel_rfl)
      (case b4 => kernel_rfl)
      (case b5 => kernel_rfl)
      (case b6 => kernel_rfl)
      (case b7 => kernel_rfl)
      (case b8 => kernel_rfl)
      (case b9 => kernel_rfl)
      (case b10 => kernel_rfl)
      (case b11 => kernel_rfl)
      (case b12 => kernel_rfl)
      (case b13 => kernel_rfl)
      (case b14 => kernel_rfl)
    case t_NothingToUndo =>
      refine' U.ttf_mk ?a1 ?a2 ?a3 ?a4 ?a5 ?a6 ?a7 ?a8 ?a9 ?a10 ?b0 ?b1 ?b2 ?b3 ?b4 ?b5 ?b6 ?b7 ?b8 ?b9 ?b10 ?b11 ?b12 ?b13 ?b14
      (case a1 => first | k_is | kernel_rfl)
      (case a2 => first | k_is | kernel_rfl)
      (case a3 => first | k_is | kernel_rfl)
      (case a4 => first | k_is | kernel_rfl)
      (case a5 => first | k_is | kernel_rfl)
      (case a6 => first | k_is | kernel_rfl)
      (case a7 => first | k_is | kernel_rfl)
      (case a8 => first | k_is | kernel_rfl)
      (case a9 => first | k_is | kernel_rfl)
      (case a10 => first | k_is | kernel_rfl)
      (case b0 => kernel_rfl)
      (case b1 => kernel_rfl)
      (case b2 => kernel_rfl)
      (case b3 => kernel_rfl)
      (case b4 => kernel_rfl)
      (case b5 => kernel_rfl)
      (case b6 => kernel_rfl)
      (case b7 => kernel_rfl)
      (case b8 => kernel_rfl)
      (case b9 => kernel_rfl)
      (case b10 => kernel_rfl)
      (case b11 => kernel_rfl)
      (case b12 => kernel_rfl)
      (case b13 => kernel_rfl)
      (case b14 => kernel_rfl)
    case F_law_cell =>
      refine' U.fn_mk KX G ?a ?l ?c ?k
      (case a => k_is); (case l => k_is); (case c => k_is); (case k => k_is)
    case F_law_rounds =>
      refine' U.fn_mk KX G ?a ?l ?c ?k
      (case a => k_is); (case l => k_is); (case c => k_is); (case k => k_is)
    case F_is_whole =>
      refine' U.fn_mk KX G ?a ?l ?c ?k
      (case a => k_is); (case l => k_is); (case c => k_is); (case k => k_is)
    case F_is_pair =>
      refine' U.fn_mk KX G ?a ?l ?c ?k
      (case a => k_is); (case l => k_is); (case c => k_is); (case k => k_is)
    case F_is_web =>
      refine' U.fn_mk KX G ?a ?l ?c ?k
      (case a => k_is); (case l => k_is); (case c => k_is); (case k => k_is)
    case F_need_web =>
      refine' U.fn_mk KX G ?a ?l ?c ?k
      (case a => k_is); (case l => k_is); (case c => k_is); (case k => k_is)
    case F_Desk___init__ =>
      refine' U.mfn_mk ?a ?n ?k ?l ?c
      (case a => first | k_is | kernel_rfl); (case n => first | k_is | kernel_rfl); (case k => first | k_is | kernel_rfl); (case l => k_is); (case c => k_is)
    case F_law_drawn =>
      refine' U.fn_mk KX G ?a ?l ?c ?k
      (case a => k_is); (case l => k_is); (case c => k_is); (case k => k_is)
    case F_law_roll =>
      refine' U.fn_mk KX G ?a ?l ?c ?k
      (case a => k_is); (case l => k_is); (case c => k_is); (case k => k_is)
    case F_need_place =>
      refine' U.fn_mk KX G ?a ?l ?c ?k
      (case a => k_is); (case l => k_is); (case c => k_is); (case k => k_is)
    case F_top_of =>
      refine' U.fn_mk KX G ?a ?l ?c ?k
      (case a => k_is); (case l => k_is); (case c => k_is); (case k => k_is)
    case F_known_lines =>
      refine' U.fn_mk KX G ?a ?l ?c ?k
      (case a => k_is); (case l => k_is); (case c => k_is); (case k => k_is)
    case F_with_number =>
      refine' U.fn_mk KX G ?a ?l ?c ?k
      (case a => k_is); (case l => k_is); (case c => k_is); (case k => k_is)
    case F_is_fitting =>
      refine' U.fn_mk KX G ?a ?l ?c ?k
      (case a => k_is); (case l => k_is); (case c => k_is); (case k => k_is)
    case F_Desk_change =>
      refine' U.mfn_mk ?a ?n ?k ?l ?c
      (case a => first | k_is | kernel_rfl); (case n => first | k_is | kernel_rfl); (case k => first | k_is | kernel_rfl); (case l => k_is); (case c => k_is)
    case F_Desk_put =>
      refine' U.mfn_mk ?a ?n ?k ?l ?c
      (case a => first | k_is | kernel_rfl); (case n => first | k_is | kernel_rfl); (case k => first | k_is | kernel_rfl); (case l => k_is); (case c => k_is)
    case F_first_good =>
      refine' U.fn_mk KX G ?a ?l ?c ?k
      (case a => k_is); (case l => k_is); (case c => k_is); (case k => k_is)
    case F_are_unlike =>
      refine' U.fn_mk KX G ?a ?l ?c ?k
      (case a => k_is); (case l => k_is); (case c => k_is); (case k => k_is)
    case F_fits_top =>
      refine' U.fn_mk KX G ?a ?l ?c ?k
      (case a => k_is); (case l => k_is); (case c => k_is); (case k => k_is)
    case F_need_numbering =>
      refine' U.fn_mk KX G ?a ?l ?c ?k
      (case a => k_is); (case l => k_is); (case c => k_is); (case k => k_is)
    case F_line_numbers =>
      refine' U.fn_mk KX G ?a ?l ?c ?k
      (case a => k_is); (case l => k_is); (case c => k_is); (case k => k_is)
    case F_possible_numbers =>
      refine' U.fn_mk KX G ?a ?l ?c ?k
      (case a => k_is); (case l => k_is); (case c => k_is); (case k => k_is)
    case F_completed =>
      refine' U.fn_mk KX G ?a ?l ?c ?k
      (case a => k_is); (case l => k_is); (case c => k_is); (case k => k_is)
    case F_need_both =>
      refine' U.fn_mk KX G ?a ?l ?c ?k
      (case a => k_is); (case l => k_is); (case c => k_is); (case k => k_is)
    case F_first_with_top =>
      refine' U.fn_mk KX G ?a ?l ?c ?k
      (case a => k_is); (case l => k_is); (case c => k_is); (case k => k_is)
    case F_turn_of =>
      refine' U.fn_mk KX G ?a ?l ?c ?k
      (case a => k_is); (case l => k_is); (case c => k_is); (case k => k_is)
    case F_digit =>
      refine' U.fn_mk KX G ?a ?l ?c ?k
      (case a => k_is); (case l => k_is); (case c => k_is); (case k => k_is)
    case F_line_of =>
      refine' U.fn_mk KX G ?a ?l ?c ?k
      (case a => k_is); (case l => k_is); (case c => k_is); (case k => k_is)
    case F_parse_web =>
      refine' U.fn_mk KX G ?a ?l ?c ?k
      (case a => k_is); (case l => k_is); (case c => k_is); (case k => k_is)
    case F_numbers_of_lines =>
      refine' U.fn_mk KX G ?a ?l ?c ?k
      (case a => k_is); (case l => k_is); (case c => k_is); (case k => k_is)
    case F_all_differ =>
      refine' U.fn_mk KX G ?a ?l ?c ?k
      (case a => k_is); (case l => k_is); (case c => k_is); (case k => k_is)
    case F_need_good =>
      refine' U.fn_mk KX G ?a ?l ?c ?k
      (case a => k_is); (case l => k_is); (case c => k_is); (case k => k_is)
    case F_copy_at =>
      refine' U.fn_mk KX G ?a ?l ?c ?k
      (case a => k_is); (case l => k_is); (case c => k_is); (case k => k_is)
    case F_need_lines =>
      refine' U.fn_mk KX G ?a ?l ?c ?k
      (case a => k_is); (case l => k_is); (case c => k_is); (case k => k_is)
    case F_first_sum_good =>
      refine' U.fn_mk KX G ?a ?l ?c ?k
      (case a => k_is); (case l => k_is); (case c => k_is); (case k => k_is)
    case F_need_few =>
      refine' U.fn_mk KX G ?a ?l ?c ?k
      (case a => k_is); (case l => k_is); (case c => k_is); (case k => k_is)
    case F_count_good =>
      refine' U.fn_mk KX G ?a ?l ?c ?k
      (case a => k_is); (case l => k_is); (case c => k_is); (case k => k_is)
    case F_law_pairs =>
      refine' U.fn_mk KX G ?a ?l ?c ?k
      (case a => k_is); (case l => k_is); (case c => k_is); (case k => k_is)
    case F_Desk_take =>
      refine' U.mfn_mk ?a ?n ?k ?l ?c
      (case a => first | k_is | kernel_rfl); (case n => first | k_is | kernel_rfl); (case k => first | k_is | kernel_rfl); (case l => k_is); (case c => k_is)
    case F_Desk_redo =>
      refine' U.mfn_mk ?a ?n ?k ?l ?c
      (case a => first | k_is | kernel_rfl); (case n => first | k_is | kernel_rfl); (case k => first | k_is | kernel_rfl); (case l => k_is); (case c => k_is)
    case F_law_alone =>
      refine' U.fn_mk KX G ?a ?l ?c ?k
      (case a => k_is); (case l => k_is); (case c => k_is); (case k => k_is)
    case F_law_met =>
      refine' U.fn_mk KX G ?a ?l ?c ?k
      (case a => k_is); (case l => k_is); (case c => k_is); (case k => k_is)
#print axioms PySem.Challenge.cw_unlikelines_k21_errors_apart_holds
