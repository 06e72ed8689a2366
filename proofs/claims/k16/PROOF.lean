import PyProof.Rows.All
import Wide.All
import OpenK.AllK
import Wide.FinOn
import HandS.ForMost
import HandS.ForExc
import HandS.Evl
import HandS.Lambda
import HandS.TupAny
import HandS.Wide
import HandS.IsInst
import HandS.Deep
import HandS.SortInts
import HandS.Conv
import HandS.Strs
import HandS.SetFor
import KE.KSortedM
import HandS.SortRule
import HandS.Sort
import HandS.HotCalls
import HandS.ExcIs
import HandS.EndTab
import KE.KNestM
import HandS.TupMul
import HandS.Iter
import KE.GoesMore
import KE.GoesEnum
import PyProof.Rows.Range3
import HandS.TupLe
import KE.DatumOrd
import KE.KIndexOf
import PySem.Challenge.RW_unlikelines_k16_whole_renamed
set_option Elab.async false
set_option linter.all false
set_option maxRecDepth 100000
set_option maxHeartbeats 4000000
/-! DL: a logic of data over the hand layer: what code does to plain immutable data (PyData) and to lists that it owns. -/
namespace DL
open PySem L2
open Evl (Ex)
abbrev Sigma := List (Option V)

/-! ### data on the heap -/
mutual
inductive Dt (B : Hp) : V → PyData → Prop
  | non : Dt B .non .none
  | bl (b : Bool) : Dt B (.bl b) (.bool b)
  | int (i : Int) : Dt B (.int i) (.int i)
  | str (x : Str) : Dt B (.str x) (.str x)
  | lst {a : Addr} {xs : List V} {ds : List PyData} : B a = some (.lst xs) → DtAll B xs ds → Dt B (.ref a) (.list ds)
  | tup {a : Addr} {xs : List V} {ds : List PyData} : B a = some (.tup xs) → DtAll B xs ds → Dt B (.ref a) (.tuple ds)
inductive DtAll (B : Hp) : List V → List PyData → Prop
  | nil : DtAll B [] []
  | cons {v : V} {vs : List V} {d : PyData} {ds : List PyData} : Dt B v d → DtAll B vs ds → DtAll B (v :: vs) (d :: ds)
end

mutual
theorem Dt.mono {B B' : Hp} (e : Ex B B') : ∀ {v : V} {d : PyData}, Dt B v d → Dt B' v d
  | _, _, .non => .non
  | _, _, .bl b => .bl b
  | _, _, .int i => .int i
  | _, _, .str x => .str x
  | _, _, .lst h q => .lst (e _ _ h) (DtAll.mono e q)
  | _, _, .tup h q => .tup (e _ _ h) (DtAll.mono e q)
theorem DtAll.mono {B B' : Hp} (e : Ex B B') : ∀ {vs : List V} {ds : List PyData}, DtAll B vs ds → DtAll B' vs ds
  | _, _, .nil => .nil
  | _, _, .cons h q => .cons (Dt.mono e h) (DtAll.mono e q)
end
mutual
theorem Dt.dp {K : PySem.W.Frag} {B H : Hp} (e : Ex B H) : ∀ {v : V} {d : PyData}, Dt B v d → Dp K H v d
  | _, _, .non => .non
  | _, _, .bl b => .bl b
  | _, _, .int i => .int i
  | _, _, .str x => .str x
  | _, _, .lst h q => .lst (SqL.of (e _ _ h)) (DtAll.dp e q)
  | _, _, .tup h q => .tup (SqT.of (e _ _ h)) (DtAll.dp e q)
theorem DtAll.dp {K : PySem.W.Frag} {B H : Hp} (e : Ex B H) : ∀ {vs : List V} {ds : List PyData}, DtAll B vs ds → DpAll K H vs ds
  | _, _, .nil => .nil
  | _, _, .cons h q => .cons (Dt.dp e h) (DtAll.dp e q)
end
section
variable {B : Hp} {v : V}
theorem Dt.inv_non (h : Dt B v .none) : v = .non := by cases h; rfl
theorem Dt.inv_bl {b : Bool} (h : Dt B v (.bool b)) : v = .bl b := by cases h; rfl
theorem Dt.inv_int {i : Int} (h : Dt B v (.int i)) : v = .int i := by cases h; rfl
theorem Dt.inv_str {x : Str} (h : Dt B v (.str x)) : v = .str x := by cases h; rfl
theorem Dt.inv_lst {ds : List PyData} (h : Dt B v (.list ds)) : ∃ a xs, v = .ref a ∧ B a = some (.lst xs) ∧ DtAll B xs ds := by cases h with | lst h q => exact ⟨_, _, rfl, h, q⟩
theorem Dt.inv_tup {ds : List PyData} (h : Dt B v (.tuple ds)) : ∃ a xs, v = .ref a ∧ B a = some (.tup xs) ∧ DtAll B xs ds := by cases h with | tup h q => exact ⟨_, _, rfl, h, q⟩
theorem DtAll.length : ∀ {vs : List V} {ds : List PyData}, DtAll B vs ds → vs.length = ds.length
  | _, _, .nil => rfl
  | _, _, .cons _ q => congrArg Nat.succ (DtAll.length q)
theorem DtAll.get : ∀ {vs : List V} {ds : List PyData} {i : Nat} {d : PyData}, DtAll B vs ds → ds[i]? = some d → ∃ v, vs[i]? = some v ∧ Dt B v d
  | _, _, _, _, .nil, h => by simp at h
  | _, _, 0, _, .cons h _, e => ⟨_, rfl, by simp at e; subst e; exact h⟩
  | _, _, i + 1, d, .cons _ q, e => by
    obtain ⟨v, h1, h2⟩ := DtAll.get (i := i) (d := d) q (by simpa using e)
    exact ⟨v, by simpa using h1, h2⟩
theorem DtAll.getV : ∀ {vs : List V} {ds : List PyData} {i : Nat} {v : V}, DtAll B vs ds → vs[i]? = some v → ∃ d, ds[i]? = some d ∧ Dt B v d
  | _, _, _, _, .nil, h => by simp at h
  | _, _, 0, _, .cons h _, e => ⟨_, rfl, by simp at e; subst e; exact h⟩
  | _, _, i + 1, v, .cons _ q, e => by
    obtain ⟨d, h1, h2⟩ := DtAll.getV (i := i) (v := v) q (by simpa using e)
    exact ⟨d, by simpa using h1, h2⟩
theorem DtAll.append : ∀ {vs ws : List V} {ds es : List PyData}, DtAll B vs ds → DtAll B ws es → DtAll B (vs ++ ws) (ds ++ es)
  | _, _, _, _, .nil, q => q
  | _, _, _, _, .cons h t, q => .cons h (DtAll.append t q)
theorem DtAll.one {d : PyData} (h : Dt B v d) : DtAll B [v] [d] := .cons h .nil
theorem DtAll.drop : ∀ {vs : List V} {ds : List PyData} (n : Nat), DtAll B vs ds → DtAll B (vs.drop n) (ds.drop n)
  | _, _, 0, q => q
  | _, _, _ + 1, .nil => .nil
  | _, _, n + 1, .cons _ q => DtAll.drop n q
theorem DtAll.take : ∀ {vs : List V} {ds : List PyData} (n : Nat), DtAll B vs ds → DtAll B (vs.take n) (ds.take n)
  | _, _, 0, _ => .nil
  | _, _, _ + 1, .nil => .nil
  | _, _, n + 1, .cons h q => .cons h (DtAll.take n q)
theorem DtAll.ints : ∀ {ns : List Int} {vs : List V}, DtAll B vs (ns.map PyData.int) → vs = ns.map V.int
  | [], _, h => by cases h; rfl
  | n :: ns, _, h => by
    cases h with
    | cons h1 h2 =>
      have e := h1.inv_int
      subst e
      rw [DtAll.ints h2]
      rfl
theorem DtAll.bools : ∀ {ns : List Bool} {vs : List V}, DtAll B vs (ns.map PyData.bool) → vs = ns.map V.bl
  | [], _, h => by cases h; rfl
  | n :: ns, _, h => by
    cases h with
    | cons h1 h2 =>
      have e := h1.inv_bl
      subst e
      rw [DtAll.bools h2]
      rfl
theorem DtAll.of_ints : ∀ (ns : List Int), DtAll B (ns.map V.int) (ns.map PyData.int)
  | [] => .nil
  | n :: ns => .cons (.int n) (DtAll.of_ints ns)
theorem DtAll.of_bools : ∀ (ns : List Bool), DtAll B (ns.map V.bl) (ns.map PyData.bool)
  | [] => .nil
  | n :: ns => .cons (.bl n) (DtAll.of_bools ns)
end

/-! ### slots -/
/-- a knowledge of a name's value that stays where data grow -/
structure Kn where
  ok : Option V → Hp → Prop
  mono : ∀ {o : Option V} {B B' : Hp}, Ex B B' → ok o B → ok o B'
/-- it is this value -/
def kV (v : V) : Kn := ⟨fun o _ => o = some v, fun _ h => h⟩
/-- what is known of a name: nothing; a datum; a list that no datum holds; something that stays -/
inductive Sl where
  | no
  | dat (d : PyData)
  | own (qa : Option Addr) (ds : List PyData)
  | is (k : Kn)
def SlOk (F B H : Hp) (o : Option V) : Sl → Prop
  | .no => True
  | .dat d => ∃ v, o = some v ∧ Dt B v d
  | .own qa ds => ∃ p xs, o = some (.ref p) ∧ B p = none ∧ F p = none ∧ H p = some (.lst xs) ∧ DtAll B xs ds ∧ ∀ a, qa = some a → p = a
  | .is k => k.ok o B
/-- F: what the callers hold; W: of it what data must not touch; B: the heap of the data; H: the heap -/
structure Env (T : List (Addr × Str)) (F : Hp) (W : Addr → Prop) (B H : Hp) (σ : Sigma) (ρ : List Sl) : Prop where
  fh : Ex F H
  bh : Ex B H
  wf : ∀ p, W p → F p ≠ none
  wb : ∀ p, W p → B p = none
  tb : LamX.Tabs T H
  ft : T ≠ [] → ∀ p ps, F p ≠ some (.tbl ps)
  bt : ∀ p ps, B p ≠ some (.tbl ps)
  ln : σ.length = ρ.length
  sl : ∀ (i : Nat) s, ρ[i]? = some s → ∃ o, σ[i]? = some o ∧ SlOk F B H o s
  ne : ∀ (i j : Nat) p q q' ds es, i ≠ j → ρ[i]? = some (.own q ds) → ρ[j]? = some (.own q' es) → σ[i]? = some (some (.ref p)) → σ[j]? ≠ some (some (.ref p))

/-- new objects alone: data B grows to B', nothing else that stood is touched -/
structure Grow (B H B' H' : Hp) : Prop where
  bb : Ex B B'
  bh : Ex B' H'
  hh : Ex H H'
  nb : ∀ p, B p = none → H p ≠ none → B' p = none
  bt : (∀ p ps, B p ≠ some (.tbl ps)) → ∀ p ps, B' p ≠ some (.tbl ps)
theorem Grow.refl {B H : Hp} (e : Ex B H) : Grow B H B H := ⟨Ex.refl _, e, Ex.refl _, fun _ h _ => h, fun h => h⟩
theorem Grow.trans {B H B1 H1 B2 H2 : Hp} (a : Grow B H B1 H1) (b : Grow B1 H1 B2 H2) : Grow B H B2 H2 :=
  ⟨a.bb.trans b.bb, b.bh, a.hh.trans b.hh, fun p h1 h2 => b.nb p (a.nb p h1 h2) (fun z => by
    cases e : H p with
    | none => exact h2 e
    | some o => rw [a.hh p o e] at z; cases z), fun h => b.bt (a.bt h)⟩
theorem Grow.new {B H : Hp} {p : Addr} {o : HO} (e : Ex B H) (hp : H p = none) (ho : ∀ ps, o ≠ .tbl ps) : Grow B H (upd B p o) (upd H p o) := by
  have bp : B p = none := Evl.fresh_back e hp
  refine ⟨Ex.new bp, fun a u h => ?_, Ex.new hp, fun q h1 h2 => ?_, fun h q ps => ?_⟩
  · by_cases hq : a = p
    · subst hq; rw [upd_same] at h ⊢; exact h
    · rw [upd_ne hq] at h ⊢; exact e a u h
  · rw [upd_ne (fun z => h2 (by rw [z]; exact hp))]; exact h1
  · by_cases hq : q = p
    · subst hq; rw [upd_same]; exact fun z => ho ps (Option.some.inj z)
    · rw [upd_ne hq]; exact h q ps
theorem Grow.junk {B H : Hp} {p : Addr} {o : HO} (e : Ex B H) (hp : H p = none) : Grow B H B (upd H p o) :=
  ⟨Ex.refl _, e.trans (Ex.new hp), Ex.new hp, fun _ h _ => h, fun h => h⟩
theorem Grow.ex {B H H' : Hp} (e : Ex B H) (h : Ex H H') : Grow B H B H' := ⟨Ex.refl _, e.trans h, h, fun _ h _ => h, fun h => h⟩

section
variable {T : List (Addr × Str)} {F : Hp} {W : Addr → Prop} {B H B' H' : Hp} {σ : Sigma} {ρ : List Sl}
theorem Env.grow (E : Env T F W B H σ ρ) (g : Grow B H B' H') : Env T F W B' H' σ ρ where
  fh := E.fh.trans g.hh
  bh := g.bh
  wf := E.wf
  wb := fun p hp => g.nb p (E.wb p hp) (fun z => by
    cases e : F p with
    | none => exact E.wf p hp e
    | some o => rw [E.fh p o e] at z; cases z)
  tb := E.tb.ext g.hh
  ft := E.ft
  bt := g.bt E.bt
  ln := E.ln
  sl := fun i s hs => by
    obtain ⟨o, h1, h2⟩ := E.sl i s hs
    refine ⟨o, h1, ?_⟩
    cases s with
    | no => trivial
    | dat d => obtain ⟨v, e, q⟩ := h2; exact ⟨v, e, q.mono g.bb⟩
    | is k => exact k.mono g.bb h2
    | own qa ds =>
      obtain ⟨p, xs, e, e1, e2, e3, q, qq⟩ := h2
      exact ⟨p, xs, e, g.nb p e1 (by rw [e3]; exact fun z => by cases z), e2, g.hh _ _ e3, q.mono g.bb, qq⟩
  ne := E.ne
theorem Env.dat {i : Nat} {d : PyData} (E : Env T F W B H σ ρ) (h : ρ[i]? = some (.dat d)) : ∃ v, σ[i]? = some (some v) ∧ Dt B v d := by
  obtain ⟨o, h1, v, rfl, h2⟩ := E.sl i _ h
  exact ⟨v, h1, h2⟩
theorem Env.own {i : Nat} {qa : Option Addr} {ds : List PyData} (E : Env T F W B H σ ρ) (h : ρ[i]? = some (.own qa ds)) : ∃ p xs, σ[i]? = some (some (.ref p)) ∧ B p = none ∧ F p = none ∧ H p = some (.lst xs) ∧ DtAll B xs ds := by
  obtain ⟨o, h1, p, xs, rfl, a1, a2, a3, a4, _⟩ := E.sl i _ h
  exact ⟨p, xs, h1, a1, a2, a3, a4⟩
theorem Env.ownAt {i : Nat} {a : Addr} {ds : List PyData} (E : Env T F W B H σ ρ) (h : ρ[i]? = some (.own (some a) ds)) : σ[i]? = some (some (.ref a)) := by
  obtain ⟨o, h1, p, xs, rfl, _, _, _, _, q⟩ := E.sl i _ h
  rw [h1, q a rfl]
/-- an address that no own list has -/
def NotOwn (σ : Sigma) (ρ : List Sl) (p : Addr) : Prop := ∀ (i : Nat) qa ds, ρ[i]? = some (.own qa ds) → σ[i]? ≠ some (some (.ref p))
theorem Env.notOwn {p : Addr} (E : Env T F W B H σ ρ) (h : H p = none) : NotOwn σ ρ p := fun i qa ds hi hs => by
  obtain ⟨q, xs, e, _, _, e3, _⟩ := E.own hi
  rw [hs] at e
  cases e
  rw [h] at e3
  cases e3
/-- a datum is stored -/
theorem Env.set {i : Nat} {v : V} {d : PyData} (E : Env T F W B H σ ρ) (h : Dt B v d) : Env T F W B H (σ.set i (some v)) (ρ.set i (.dat d)) where
  fh := E.fh
  bh := E.bh
  wf := E.wf
  wb := E.wb
  tb := E.tb
  ft := E.ft
  bt := E.bt
  ln := by rw [List.length_set, List.length_set]; exact E.ln
  sl := fun j s hs => by
    by_cases hj : i = j
    · subst hj
      by_cases hl : i < ρ.length
      · rw [List.getElem?_set_self hl] at hs
        cases hs
        exact ⟨some v, List.getElem?_set_self (by rw [E.ln]; exact hl), v, rfl, h⟩
      · rw [List.getElem?_eq_none (by simpa using hl)] at hs; cases hs
    · rw [List.getElem?_set_ne hj] at hs ⊢
      exact E.sl j s hs
  ne := fun a b p q q' ds es hab ha hb => by
    have na : i ≠ a := fun z => by
      subst z
      by_cases hl : i < ρ.length
      · rw [List.getElem?_set_self hl] at ha; cases ha
      · rw [List.getElem?_eq_none (by simpa using hl)] at ha; cases ha
    have nb : i ≠ b := fun z => by
      subst z
      by_cases hl : i < ρ.length
      · rw [List.getElem?_set_self hl] at hb; cases hb
      · rw [List.getElem?_eq_none (by simpa using hl)] at hb; cases hb
    rw [List.getElem?_set_ne na] at ha
    rw [List.getElem?_set_ne nb] at hb
    rw [List.getElem?_set_ne na, List.getElem?_set_ne nb]
    exact E.ne a b p q q' ds es hab ha hb
/-- an own list is stored -/
theorem Env.setOwn {i : Nat} {p : Addr} {xs : List V} {ds : List PyData} (E : Env T F W B H σ ρ) (h1 : B p = none) (h2 : F p = none) (h3 : H p = some (.lst xs)) (h4 : DtAll B xs ds) (hn : NotOwn σ ρ p) : Env T F W B H (σ.set i (some (.ref p))) (ρ.set i (.own none ds)) where
  fh := E.fh
  bh := E.bh
  wf := E.wf
  wb := E.wb
  tb := E.tb
  ft := E.ft
  bt := E.bt
  ln := by rw [List.length_set, List.length_set]; exact E.ln
  sl := fun j s hs => by
    by_cases hj : i = j
    · subst hj
      by_cases hl : i < ρ.length
      · rw [List.getElem?_set_self hl] at hs
        cases hs
        exact ⟨some (.ref p), List.getElem?_set_self (by rw [E.ln]; exact hl), p, xs, rfl, h1, h2, h3, h4, fun a z => by cases z⟩
      · rw [List.getElem?_eq_none (by simpa using hl)] at hs; cases hs
    · rw [List.getElem?_set_ne hj] at hs ⊢
      exact E.sl j s hs
  ne := fun a b q qa qb ds' es hab ha hb => by
    by_cases ea : i = a
    · subst ea
      have nb : i ≠ b := hab
      rw [List.getElem?_set_ne nb] at hb
      rw [List.getElem?_set_ne nb]
      intro hs
      by_cases hl : i < σ.length
      · rw [List.getElem?_set_self hl] at hs
        cases hs
        exact hn b qb es hb
      · rw [List.getElem?_eq_none (by simpa using hl)] at hs; cases hs
    · rw [List.getElem?_set_ne ea] at ha ⊢
      by_cases eb : i = b
      · subst eb
        intro hs hs2
        by_cases hl : i < σ.length
        · rw [List.getElem?_set_self hl] at hs2
          cases hs2
          exact hn a qa ds' ha hs
        · rw [List.getElem?_eq_none (by simpa using hl)] at hs2; cases hs2
      · rw [List.getElem?_set_ne eb] at hb ⊢
        exact E.ne a b q qa qb ds' es hab ha hb
/-- less is known -/
def Weaker : List Sl → List Sl → Prop := fun ρ ρ' => ρ.length = ρ'.length ∧ ∀ (i : Nat) s, ρ'[i]? = some s → s = .no ∨ ρ[i]? = some s
theorem Env.weak {ρ' : List Sl} (E : Env T F W B H σ ρ) (w : Weaker ρ ρ') : Env T F W B H σ ρ' where
  fh := E.fh
  bh := E.bh
  wf := E.wf
  wb := E.wb
  tb := E.tb
  ft := E.ft
  bt := E.bt
  ln := E.ln.trans w.1
  sl := fun j s hs => by
    rcases w.2 j s hs with h | h
    · subst h
      have hl : j < σ.length := by rw [E.ln, w.1]; exact (List.getElem?_eq_some_iff.mp hs).1
      exact ⟨σ[j], List.getElem?_eq_getElem hl, trivial⟩
    · exact E.sl j s h
  ne := fun a b p q q' ds es hab ha hb => by
    rcases w.2 a _ ha with h | h
    · cases h
    · rcases w.2 b _ hb with h' | h'
      · cases h'
      · exact E.ne a b p q q' ds es hab h h'
/-- the own list becomes a datum -/
theorem Env.give {i : Nat} {qa : Option Addr} {ds : List PyData} (E : Env T F W B H σ ρ) (h : ρ[i]? = some (.own qa ds)) : ∃ B', Ex B B' ∧ Env T F W B' H σ (ρ.set i (.dat (.list ds))) := by
  obtain ⟨p, xs, e, hB, hF, hH, q⟩ := E.own h
  have hb : Ex B (upd B p (.lst xs)) := Ex.new hB
  have hil : i < ρ.length := (List.getElem?_eq_some_iff.mp h).1
  have nF : ∀ a, W a → a ≠ p := fun a ha z => E.wf a ha (by rw [z]; exact hF)
  refine ⟨upd B p (.lst xs), hb, ⟨E.fh, fun a o ha => ?_, E.wf, fun a ha => by rw [upd_ne (nF a ha)]; exact E.wb a ha, E.tb, E.ft, fun a ps => ?_, by rw [List.length_set]; exact E.ln, fun j s hs => ?_, fun a b r q1 q2 es fs hab ha hb' => ?_⟩⟩
  · by_cases z : a = p
    · subst z; rw [upd_same] at ha; rw [hH]; exact ha
    · rw [upd_ne z] at ha; exact E.bh a o ha
  · by_cases z : a = p
    · subst z; rw [upd_same]; exact fun z => by cases z
    · rw [upd_ne z]; exact E.bt a ps
  · by_cases hj : i = j
    · subst hj
      rw [List.getElem?_set_self hil] at hs
      cases hs
      exact ⟨_, e, _, rfl, .lst upd_same (q.mono hb)⟩
    · rw [List.getElem?_set_ne hj] at hs
      obtain ⟨o, h1, h2⟩ := E.sl j s hs
      refine ⟨o, h1, ?_⟩
      cases s with
      | no => trivial
      | dat d => obtain ⟨v, e', q'⟩ := h2; exact ⟨v, e', q'.mono hb⟩
      | is k => exact k.mono hb h2
      | own qb es =>
        obtain ⟨r, ys, e', e1, e2, e3, q', qq⟩ := h2
        refine ⟨r, ys, e', ?_, e2, e3, q'.mono hb, qq⟩
        have nr : r ≠ p := fun z => by
          subst z
          rw [e'] at h1
          exact E.ne i j r qa qb ds es hj h hs e h1
        rw [upd_ne nr]; exact e1
  · have na : i ≠ a := fun z => by subst z; rw [List.getElem?_set_self hil] at ha; cases ha
    have nb : i ≠ b := fun z => by subst z; rw [List.getElem?_set_self hil] at hb'; cases hb'
    rw [List.getElem?_set_ne na] at ha
    rw [List.getElem?_set_ne nb] at hb'
    exact E.ne a b r q1 q2 es fs hab ha hb'
/-- the own list at p is written -/
theorem Env.write {i : Nat} {p : Addr} {qa : Option Addr} {ds es : List PyData} {ys : List V} (E : Env T F W B H σ ρ) (h : ρ[i]? = some (.own qa ds)) (hp : σ[i]? = some (some (.ref p))) (hy : DtAll B ys es) : Env T F W B (upd H p (.lst ys)) σ (ρ.set i (.own qa es)) := by
  obtain ⟨p', xs, e, hB, hF, hH, q⟩ := E.own h
  have hqa : ∀ a, qa = some a → p = a := fun a z => by
    subst z
    have := E.ownAt h
    rw [hp] at this
    cases this
    rfl
  rw [hp] at e
  cases e
  have hil : i < ρ.length := (List.getElem?_eq_some_iff.mp h).1
  refine ⟨fun a o ha => ?_, fun a o ha => ?_, E.wf, E.wb, fun t ht => ?_, E.ft, E.bt, by rw [List.length_set]; exact E.ln, fun j s hs => ?_, fun a b r q1 q2 fs gs hab ha hb' => ?_⟩
  · rw [upd_ne (ne_of_none ha hF)]; exact E.fh a o ha
  · rw [upd_ne (ne_of_none ha hB)]; exact E.bh a o ha
  · obtain ⟨ps, h1, h2, h3⟩ := E.tb t ht
    refine ⟨ps, ?_, h2, fun pos cv hc => ?_⟩
    · rw [upd_ne (ne_of h1 hH (fun z => by cases z))]; exact h1
    · obtain ⟨c, e1, e2⟩ := h3 pos cv hc
      refine ⟨c, e1, ?_⟩
      rw [upd_ne (ne_of e2 hH (fun z => by unfold LamX.CodeO at z; cases z))]; exact e2
  · by_cases hj : i = j
    · subst hj
      rw [List.getElem?_set_self hil] at hs
      cases hs
      exact ⟨_, hp, p, ys, rfl, hB, hF, upd_same, hy, hqa⟩
    · rw [List.getElem?_set_ne hj] at hs
      obtain ⟨o, h1, h2⟩ := E.sl j s hs
      refine ⟨o, h1, ?_⟩
      cases s with
      | no => trivial
      | dat d => exact h2
      | is k => exact h2
      | own qb es' =>
        obtain ⟨r, zs, e', e1, e2, e3, q', qq⟩ := h2
        refine ⟨r, zs, e', e1, e2, ?_, q', qq⟩
        have nr : r ≠ p := fun z => by
          subst z
          rw [e'] at h1
          exact E.ne i j r qa qb ds es' hj h hs hp h1
        rw [upd_ne nr]; exact e3
  · have key : ∀ (c : Nat) qc fs, (ρ.set i (.own qa es))[c]? = some (.own qc fs) → ∃ qd fs', ρ[c]? = some (.own qd fs') := fun c qc fs hc => by
      by_cases z : i = c
      · subst z; exact ⟨qa, ds, h⟩
      · rw [List.getElem?_set_ne z] at hc; exact ⟨qc, fs, hc⟩
    obtain ⟨g1, f1, k1⟩ := key a q1 fs ha
    obtain ⟨g2, f2, k2⟩ := key b q2 gs hb'
    exact E.ne a b r g1 g2 f1 f2 hab k1 k2
end
end DL
namespace DL
open PySem L2
open Evl (Ex)

/-! ### judgements -/
abbrev TL := List (Addr × Str)
/-- te, where the names hold ρ, gives d; the names hold ρ' then -/
def EE (T : TL) (te : TE) (ρ : List Sl) (d : PyData) (ρ' : List Sl) : Prop :=
  ∀ F W B H σ (Q : VK), Env T F W B H σ ρ → (∀ v B' H', Ex B B' → Env T F W B' H' σ ρ' → Dt B' v d → Q v H') → te σ H Q
def ET (T : TL) (tt : TT) (ρ : List Sl) (b : Bool) (ρ' : List Sl) : Prop :=
  ∀ F W B H σ (Q : Bool → Hp → Prop), Env T F W B H σ ρ → (∀ B' H', Ex B B' → Env T F W B' H' σ ρ' → Q b H') → tt σ H Q
def EA (T : TL) (ta : TA) (ρ : List Sl) (ds : List PyData) (ρ' : List Sl) : Prop :=
  ∀ F W B H σ (Q : List V → Hp → Prop), Env T F W B H σ ρ → (∀ vs B' H', Ex B B' → Env T F W B' H' σ ρ' → DtAll B' vs ds → Q vs H') → ta σ H Q
/-- a new list, not yet a datum -/
def EL (T : TL) (te : TE) (ρ : List Sl) (ds : List PyData) (ρ' : List Sl) : Prop :=
  ∀ F W B H σ (Q : VK), Env T F W B H σ ρ → (∀ p xs B' H', Ex B B' → Env T F W B' H' σ ρ' → B' p = none → F p = none → H' p = some (.lst xs) → DtAll B' xs ds → NotOwn σ ρ' p → Q (.ref p) H') → te σ H Q
def EO (T : TL) (to : TO) (ρ : List Sl) (o : Option Int) (ρ' : List Sl) : Prop :=
  ∀ F W B H σ (Q : Option Int → Hp → Prop), Env T F W B H σ ρ → (∀ B' H', Ex B B' → Env T F W B' H' σ ρ' → Q o H') → to σ H Q

/-- a list of no one's becomes a datum -/
theorem Env.take {T : TL} {F : Hp} {W : Addr → Prop} {B H : Hp} {σ : Sigma} {ρ : List Sl} {p : Addr} {xs : List V} {ds : List PyData} (E : Env T F W B H σ ρ) (h1 : B p = none) (h2 : F p = none) (h3 : H p = some (.lst xs)) (h4 : DtAll B xs ds) (hn : NotOwn σ ρ p) :
    ∃ B', Ex B B' ∧ Env T F W B' H σ ρ ∧ Dt B' (.ref p) (.list ds) := by
  have hb : Ex B (upd B p (.lst xs)) := Ex.new h1
  have nF : ∀ a, W a → a ≠ p := fun a ha z => E.wf a ha (by rw [z]; exact h2)
  refine ⟨upd B p (.lst xs), hb, ⟨E.fh, fun a o ha => ?_, E.wf, fun a ha => by rw [upd_ne (nF a ha)]; exact E.wb a ha, E.tb, E.ft, fun a ps => ?_, E.ln, fun j s hs => ?_, E.ne⟩, .lst upd_same (h4.mono hb)⟩
  · by_cases z : a = p
    · subst z; rw [upd_same] at ha; rw [h3]; exact ha
    · rw [upd_ne z] at ha; exact E.bh a o ha
  · by_cases z : a = p
    · subst z; rw [upd_same]; exact fun z => by cases z
    · rw [upd_ne z]; exact E.bt a ps
  · obtain ⟨o, e1, e2⟩ := E.sl j s hs
    refine ⟨o, e1, ?_⟩
    cases s with
    | no => trivial
    | dat d => obtain ⟨v, e', q'⟩ := e2; exact ⟨v, e', q'.mono hb⟩
    | is k => exact k.mono hb e2
    | own qb es =>
      obtain ⟨r, ys, e', k1, k2, k3, q', qq⟩ := e2
      subst e'
      refine ⟨r, ys, rfl, ?_, k2, k3, q'.mono hb, qq⟩
      have nr : r ≠ p := fun z => by subst z; exact hn j qb es hs e1
      rw [upd_ne nr]; exact k1

section
variable {T : TL} {te ta tb tc : TE} {tt tu : TT} {ρ ρ1 ρ2 ρ3 : List Sl} {d x y z : PyData} {ds es : List PyData}
theorem EL.ee (h : EL T te ρ ds ρ1) : EE T te ρ (.list ds) ρ1 := fun F W B H σ Q E k => h F W B H σ Q E fun p xs B' H' e E' h1 h2 h3 h4 h5 => by
  obtain ⟨B2, e2, E2, q⟩ := E'.take h1 h2 h3 h4 h5
  exact k _ B2 H' (e.trans e2) E2 q
theorem EE.is (h : EE T te ρ x ρ1) (e : x = y) : EE T te ρ y ρ1 := by rw [← e]; exact h
theorem EL.is (h : EL T te ρ ds ρ1) (e : ds = es) : EL T te ρ es ρ1 := by rw [← e]; exact h
theorem ET.is {b c : Bool} (h : ET T tt ρ b ρ1) (e : b = c) : ET T tt ρ c ρ1 := by rw [← e]; exact h
theorem ee_var {i : Nat} (h : ρ[i]? = some (.dat d)) : EE T (tVar i) ρ d ρ := fun F W B H σ Q E k => by
  obtain ⟨v, h1, h2⟩ := E.dat h
  exact ⟨v, h1, k v B H (Ex.refl _) E h2⟩
theorem ee_int {i : Int} : EE T (tC (.int i)) ρ (.int i) ρ := fun F W B H σ Q E k => k _ B H (Ex.refl _) E (.int i)
theorem ee_bl {i : Bool} : EE T (tC (.bl i)) ρ (.bool i) ρ := fun F W B H σ Q E k => k _ B H (Ex.refl _) E (.bl i)
theorem ee_str {i : Str} : EE T (tC (.str i)) ρ (.str i) ρ := fun F W B H σ Q E k => k _ B H (Ex.refl _) E (.str i)
theorem ee_non : EE T (tC .non) ρ .none ρ := fun F W B H σ Q E k => k _ B H (Ex.refl _) E .non
theorem ea_nil : EA T tNil ρ [] ρ := fun F W B H σ Q E k => k [] B H (Ex.refl _) E .nil
theorem ea_cons {tr : TA} (h : EE T te ρ d ρ1) (hr : EA T tr ρ1 ds ρ2) : EA T (tCons te tr) ρ (d :: ds) ρ2 := fun F W B H σ Q E k =>
  h F W B H σ _ E fun v B1 H1 e1 E1 q1 => hr F W B1 H1 σ _ E1 fun vs B2 H2 e2 E2 q2 => k (v :: vs) B2 H2 (e1.trans e2) E2 (.cons (q1.mono e2) q2)
theorem ea_1 (h : EE T te ρ d ρ1) : EA T (tCons te tNil) ρ [d] ρ1 := ea_cons h ea_nil
theorem ea_2 (h : EE T ta ρ x ρ1) (h2 : EE T tb ρ1 y ρ2) : EA T (tCons ta (tCons tb tNil)) ρ [x, y] ρ2 := ea_cons h (ea_1 h2)
theorem ea_3 (h : EE T ta ρ x ρ1) (h2 : EE T tb ρ1 y ρ2) (h3 : EE T tc ρ2 z ρ3) : EA T (tCons ta (tCons tb (tCons tc tNil))) ρ [x, y, z] ρ3 := ea_cons h (ea_2 h2 h3)
theorem sz_of {n : Nat} (h : n ≤ 100000) : n ≤ sizeLine := Nat.le_trans h (by decide)
theorem sz_lt {n : Nat} (h : n < 100000) : n < sizeLine := Nat.lt_of_lt_of_le h (by decide)
theorem ee_tup {tr : TA} (h : EA T tr ρ ds ρ1) (hl : ds.length ≤ 100000) : EE T (tTup tr) ρ (.tuple ds) ρ1 := fun F W B H σ Q E k =>
  h F W B H σ _ E fun vs B1 H1 e1 E1 q1 => ⟨by rw [q1.length]; exact sz_of hl, fun p hp => by
    have g := Grow.new (o := .tup vs) E1.bh hp (fun ps z => by cases z)
    exact k _ _ _ (e1.trans g.bb) (E1.grow g) (.tup upd_same (q1.mono g.bb))⟩
theorem el_lst {tr : TA} (h : EA T tr ρ ds ρ1) (hl : ds.length ≤ 100000) : EL T (tLst tr) ρ ds ρ1 := fun F W B H σ Q E k =>
  h F W B H σ _ E fun vs B1 H1 e1 E1 q1 => ⟨by rw [q1.length]; exact sz_of hl, fun p hp => by
    have g := Grow.junk (o := .lst vs) E1.bh hp
    exact k p vs B1 _ e1 (E1.grow g) (Evl.fresh_back E1.bh hp) (Evl.fresh_back E1.fh hp) upd_same q1 (E1.notOwn hp)⟩

/-! ### operations on data -/
def RE (r : R2) (x y z : PyData) : Prop := ∀ B H vx vy (Q : VK), Ex B H → (∀ p ps, B p ≠ some (.tbl ps)) → Dt B vx x → Dt B vy y → (∀ v B' H', Grow B H B' H' → Dt B' v z → Q v H') → r vx vy H Q
def RB (r : List V → Hp → VK → Prop) (ds : List PyData) (z : PyData) : Prop := ∀ B H vs (Q : VK), Ex B H → (∀ p ps, B p ≠ some (.tbl ps)) → DtAll B vs ds → (∀ v B' H', Grow B H B' H' → Dt B' v z → Q v H') → r vs H Q
/-- .. a new list -/
def RBL (r : List V → Hp → VK → Prop) (ds es : List PyData) : Prop := ∀ B H vs (Q : VK), Ex B H → DtAll B vs ds → (∀ p xs H', H p = none → Ex H H' → H' p = some (.lst xs) → DtAll B xs es → Q (.ref p) H') → r vs H Q
def REL (r : R2) (x y : PyData) (es : List PyData) : Prop := ∀ B H vx vy (Q : VK), Ex B H → Dt B vx x → Dt B vy y → (∀ p xs H', H p = none → Ex H H' → H' p = some (.lst xs) → DtAll B xs es → Q (.ref p) H') → r vx vy H Q
theorem ee_op {r : R2} (ha : EE T ta ρ x ρ1) (hb : EE T tb ρ1 y ρ2) (hr : RE r x y z) : EE T (tOp r ta tb) ρ z ρ2 := fun F W B H σ Q E k =>
  ha F W B H σ _ E fun v B1 H1 e1 E1 q1 => hb F W B1 H1 σ _ E1 fun u B2 H2 e2 E2 q2 => hr B2 H2 v u Q E2.bh E2.bt (q1.mono e2) q2 fun w B3 H3 g q3 => k w B3 H3 ((e1.trans e2).trans g.bb) (E2.grow g) q3
theorem el_op {r : R2} (ha : EE T ta ρ x ρ1) (hb : EE T tb ρ1 y ρ2) (hr : REL r x y es) : EL T (tOp r ta tb) ρ es ρ2 := fun F W B H σ Q E k =>
  ha F W B H σ _ E fun v B1 H1 e1 E1 q1 => hb F W B1 H1 σ _ E1 fun u B2 H2 e2 E2 q2 => hr B2 H2 v u Q E2.bh (q1.mono e2) q2 fun p xs H3 hp e3 h3 q3 =>
    k p xs B2 H3 (e1.trans e2) (E2.grow (Grow.ex E2.bh e3)) (Evl.fresh_back E2.bh hp) (Evl.fresh_back E2.fh hp) h3 q3 (E2.notOwn hp)
theorem ee_cb {r : List V → Hp → VK → Prop} {tr : TA} (h : EA T tr ρ ds ρ1) (hr : RB r ds z) : EE T (tCB r tr) ρ z ρ1 := fun F W B H σ Q E k =>
  h F W B H σ _ E fun vs B1 H1 e1 E1 q1 => hr B1 H1 vs Q E1.bh E1.bt q1 fun w B2 H2 g q2 => k w B2 H2 (e1.trans g.bb) (E1.grow g) q2
theorem el_cb {r : List V → Hp → VK → Prop} {tr : TA} (h : EA T tr ρ ds ρ1) (hr : RBL r ds es) : EL T (tCB r tr) ρ es ρ1 := fun F W B H σ Q E k =>
  h F W B H σ _ E fun vs B1 H1 e1 E1 q1 => hr B1 H1 vs Q E1.bh q1 fun p xs H2 hp e2 h2 q2 =>
    k p xs B1 H2 e1 (E1.grow (Grow.ex E1.bh e2)) (Evl.fresh_back E1.bh hp) (Evl.fresh_back E1.fh hp) h2 q2 (E1.notOwn hp)
theorem RBL.rb {r : List V → Hp → VK → Prop} (h : RBL r ds es) : RB r ds (.list es) := fun B H vs Q e bt q k => h B H vs Q e q fun p xs H' hp e' h' q' => by
  have hB := Evl.fresh_back e hp
  refine k (.ref p) (upd B p (.lst xs)) H' ⟨Ex.new hB, fun a o ha => ?_, e', fun a h1 h2 => ?_, fun h a ps => ?_⟩ (.lst upd_same (q'.mono (Ex.new hB)))
  · by_cases z : a = p
    · subst z; rw [upd_same] at ha; rw [h']; exact ha
    · rw [upd_ne z] at ha; exact e' a o (e a o ha)
  · rw [upd_ne (fun z => h2 (by rw [z]; exact hp))]; exact h1
  · by_cases z : a = p
    · subst z; rw [upd_same]; exact fun z => by cases z
    · rw [upd_ne z]; exact h a ps
end

section
variable {i j : Int} {x y : PyData}
theorem re_I0 {g : Int → Int → V} {z : PyData} (hz : ∀ B, Dt B (g i j) z) : RE (rI0 g) (.int i) (.int j) z := fun B H vx vy Q e bt h1 h2 k => by
  have e1 := h1.inv_int; have e2 := h2.inv_int
  exact ⟨i, j, e1, e2, k _ B H (Grow.refl e) (hz B)⟩
theorem re_I {C : Int → Int → Prop} {g : Int → Int → V} {z : PyData} (hc : C i j) (hz : ∀ B, Dt B (g i j) z) : RE (rI C g) (.int i) (.int j) z := fun B H vx vy Q e bt h1 h2 k => by
  have e1 := h1.inv_int; have e2 := h2.inv_int
  exact ⟨i, j, e1, e2, hc, k _ B H (Grow.refl e) (hz B)⟩
theorem re_add : RE (rI0 fun i j => .int (i + j)) (.int i) (.int j) (.int (i + j)) := re_I0 fun _ => .int _
theorem re_sub : RE (rI0 fun i j => .int (i - j)) (.int i) (.int j) (.int (i - j)) := re_I0 fun _ => .int _
theorem re_mod (h : 0 < j) : RE (rI (fun _ j => 0 < j) fun i j => .int (i % j)) (.int i) (.int j) (.int (i % j)) := re_I h fun _ => .int _
theorem re_fdiv (h : 0 < j) (h2 : j < 1073741824) : RE (rI CDiv fun i j => .int (i / j)) (.int i) (.int j) (.int (i / j)) := re_I ⟨h, h2⟩ fun _ => .int _
theorem re_mulL (h : -(2 ^ 64) < i ∧ i < 2 ^ 64) : RE (rI CMul fun i j => .int (i * j)) (.int i) (.int j) (.int (i * j)) := re_I (.inl h) fun _ => .int _
theorem re_mulR (h : -(2 ^ 64) < j ∧ j < 2 ^ 64) : RE (rI CMul fun i j => .int (i * j)) (.int i) (.int j) (.int (i * j)) := re_I (.inr h) fun _ => .int _
theorem re_lt : RE (rI0 fun i j => .bl (decide (i < j))) (.int i) (.int j) (.bool (decide (i < j))) := re_I0 fun _ => .bl _
theorem re_le : RE (rI0 fun i j => .bl (decide (i ≤ j))) (.int i) (.int j) (.bool (decide (i ≤ j))) := re_I0 fun _ => .bl _
theorem re_gt : RE (rI0 fun i j => .bl (decide (j < i))) (.int i) (.int j) (.bool (decide (j < i))) := re_I0 fun _ => .bl _
theorem re_ge : RE (rI0 fun i j => .bl (decide (j ≤ i))) (.int i) (.int j) (.bool (decide (j ≤ i))) := re_I0 fun _ => .bl _
theorem re_eqI : RE rEq (.int i) (.int j) (.bool (decide (i = j))) := fun B H vx vy Q e bt h1 h2 k => by
  have e1 := h1.inv_int; have e2 := h2.inv_int
  subst e1 e2
  refine ⟨rfl, ?_⟩
  have : decide (V.int i = V.int j) = decide (i = j) := by simp
  rw [this]
  exact k _ B H (Grow.refl e) (.bl _)
theorem re_neI : RE rNe (.int i) (.int j) (.bool (!decide (i = j))) := fun B H vx vy Q e bt h1 h2 k => by
  have e1 := h1.inv_int; have e2 := h2.inv_int
  subst e1 e2
  refine ⟨rfl, ?_⟩
  have : decide (V.int i = V.int j) = decide (i = j) := by simp
  rw [this]
  exact k _ B H (Grow.refl e) (.bl _)
theorem re_eqB {a b : Bool} : RE rEq (.bool a) (.bool b) (.bool (decide (a = b))) := fun B H vx vy Q e bt h1 h2 k => by
  have e1 := h1.inv_bl; have e2 := h2.inv_bl
  subst e1 e2
  refine ⟨rfl, ?_⟩
  have : decide (V.bl a = V.bl b) = decide (a = b) := by simp
  rw [this]
  exact k _ B H (Grow.refl e) (.bl _)
theorem re_neB {a b : Bool} : RE rNe (.bool a) (.bool b) (.bool (!decide (a = b))) := fun B H vx vy Q e bt h1 h2 k => by
  have e1 := h1.inv_bl; have e2 := h2.inv_bl
  subst e1 e2
  refine ⟨rfl, ?_⟩
  have : decide (V.bl a = V.bl b) = decide (a = b) := by simp
  rw [this]
  exact k _ B H (Grow.refl e) (.bl _)
/-- == and != of data -/
theorem re_eqD {K : PySem.W.Frag} (h1 : SeqAt.shaped x = true) (h2 : SeqAt.shaped y = true) : RE (rEqD K) x y (.bool (PyData.eqv x y)) := fun B H vx vy Q e bt q1 q2 k =>
  ⟨x, y, q1.dp e, q2.dp e, h1, h2, k _ B H (Grow.refl e) (.bl _)⟩
theorem re_neD {K : PySem.W.Frag} (h1 : SeqAt.shaped x = true) (h2 : SeqAt.shaped y = true) : RE (rNeD K) x y (.bool (!PyData.eqv x y)) := fun B H vx vy Q e bt q1 q2 k =>
  ⟨x, y, q1.dp e, q2.dp e, h1, h2, k _ B H (Grow.refl e) (.bl _)⟩
/-- is None -/
def isNone : PyData → Bool
  | .none => true
  | _ => false
theorem dt_none {B : Hp} {v : V} {d : PyData} (h : Dt B v d) : decide (v = .non) = isNone d := by
  cases h <;> simp [isNone]
theorem re_isN : RE (fun x y H Q => y = .non ∧ Q (.bl (decide (x = .non))) H) x .none (.bool (isNone x)) := fun B H vx vy Q e bt q1 q2 k => ⟨q2.inv_non, by rw [dt_none q1]; exact k _ B H (Grow.refl e) (.bl _)⟩
theorem re_notN : RE (fun x y H Q => y = .non ∧ Q (.bl (!decide (x = .non))) H) x .none (.bool (!isNone x)) := fun B H vx vy Q e bt q1 q2 k => ⟨q2.inv_non, by rw [dt_none q1]; exact k _ B H (Grow.refl e) (.bl _)⟩
theorem atI_dt {B : Hp} {vs : List V} {ds : List PyData} {d : PyData} (q : DtAll B vs ds) (h : atI ds i = some d) : ∃ v, atI vs i = some v ∧ Dt B v d := by
  unfold atI at h ⊢
  rw [q.length]
  cases e : ixN ds.length i with
  | none => rw [e] at h; cases h
  | some j =>
    rw [e] at h
    exact q.get h
theorem re_ixT {K : PySem.W.Frag} {ds : List PyData} {d : PyData} (h : atI ds i = some d) : RE (rIxT K) (.tuple ds) (.int i) d := fun B H vx vy Q e bt q1 q2 k => by
  obtain ⟨a, xs, e1, e2, q⟩ := q1.inv_tup
  obtain ⟨v, h1, h2⟩ := atI_dt q h
  exact ⟨a, xs, i, v, e1, q2.inv_int, SqT.of (e _ _ e2), h1, k v B H (Grow.refl e) h2⟩
theorem re_ixL {K : PySem.W.Frag} {ds : List PyData} {d : PyData} (h : atI ds i = some d) : RE (rIxL K) (.list ds) (.int i) d := fun B H vx vy Q e bt q1 q2 k => by
  obtain ⟨a, xs, e1, e2, q⟩ := q1.inv_lst
  obtain ⟨v, h1, h2⟩ := atI_dt q h
  exact ⟨a, xs, i, v, e1, q2.inv_int, SqL.of (e _ _ e2), h1, k v B H (Grow.refl e) h2⟩
theorem rel_cat {ds es : List PyData} (hl : ds.length + es.length ≤ 100000) : REL rCat (.list ds) (.list es) (ds ++ es) := fun B H vx vy Q e q1 q2 k => by
  obtain ⟨a, xs, e1, e2, q⟩ := q1.inv_lst
  obtain ⟨b, ys, f1, f2, r⟩ := q2.inv_lst
  exact ⟨a, b, xs, ys, e1, f1, e _ _ e2, e _ _ f2, by rw [q.length, r.length]; exact sz_of hl, fun p hp => k p _ _ hp (Ex.new hp) upd_same (q.append r)⟩
theorem re_catT {K : PySem.W.Frag} {ds es : List PyData} (hl : ds.length + es.length ≤ 100000) : RE (rCatA K) (.tuple ds) (.tuple es) (.tuple (ds ++ es)) := fun B H vx vy Q e bt q1 q2 k => by
  obtain ⟨a, xs, e1, e2, q⟩ := q1.inv_tup
  obtain ⟨b, ys, f1, f2, r⟩ := q2.inv_tup
  subst e1 f1
  refine ⟨a, b, xs, ys, rfl, rfl, SqT.of (e _ _ e2), SqT.of (e _ _ f2), by rw [q.length, r.length]; exact sz_of hl, fun h => ?_, fun _ h => ?_, fun _ _ p hp => ?_⟩
  · subst h; cases q; exact k _ B H (Grow.refl e) q2
  · subst h; cases r; exact k _ B H (Grow.refl e) (by rw [List.append_nil]; exact q1)
  · have g := Grow.new (o := .tup (xs ++ ys)) e hp (fun ps z => by cases z)
    exact k _ _ _ g (.tup upd_same ((q.append r).mono g.bb))
end

/-! ### tests, and, or, not -/
section
variable {T : TL} {te ta tb tc : TE} {tt tu : TT} {ρ ρ1 ρ2 ρ3 : List Sl} {d x y z : PyData} {ds es : List PyData} {a b : Bool}
theorem et_test (h : EE T te ρ (.bool b) ρ1) : ET T (tTest te) ρ b ρ1 := fun F W B H σ Q E k => h F W B H σ _ E fun v B1 H1 e1 E1 q1 => ⟨b, q1.inv_bl, k B1 H1 e1 E1⟩
theorem et_B (h : EE T te ρ (.bool b) ρ1) : ET T (tB te) ρ b ρ1 := fun F W B H σ Q E k => h F W B H σ _ E fun v B1 H1 e1 E1 q1 => ⟨b, q1.inv_bl, k B1 H1 e1 E1⟩
theorem et_not (h : ET T tt ρ b ρ1) : ET T (tNot tt) ρ (!b) ρ1 := fun F W B H σ Q E k => h F W B H σ _ E fun B1 H1 e1 E1 => k B1 H1 e1 E1
theorem et_andT (h : ET T tt ρ true ρ1) (h2 : ET T tu ρ1 b ρ2) : ET T (tAnd tt tu) ρ b ρ2 := fun F W B H σ Q E k => h F W B H σ _ E fun B1 H1 e1 E1 => by
  rw [if_pos rfl]; exact h2 F W B1 H1 σ _ E1 fun B2 H2 e2 E2 => k B2 H2 (e1.trans e2) E2
theorem et_andF (h : ET T tt ρ false ρ1) : ET T (tAnd tt tu) ρ false ρ1 := fun F W B H σ Q E k => h F W B H σ _ E fun B1 H1 e1 E1 => by
  rw [if_neg Bool.false_ne_true]; exact k B1 H1 e1 E1
theorem et_and (h : ET T tt ρ a ρ) (h2 : a = true → ET T tu ρ b ρ) : ET T (tAnd tt tu) ρ (a && b) ρ := by
  cases a with
  | true => exact et_andT h (h2 rfl)
  | false => exact et_andF h
theorem et_orT (h : ET T tt ρ true ρ1) : ET T (tOr tt tu) ρ true ρ1 := fun F W B H σ Q E k => h F W B H σ _ E fun B1 H1 e1 E1 => by
  rw [if_pos rfl]; exact k B1 H1 e1 E1
theorem et_orF (h : ET T tt ρ false ρ1) (h2 : ET T tu ρ1 b ρ2) : ET T (tOr tt tu) ρ b ρ2 := fun F W B H σ Q E k => h F W B H σ _ E fun B1 H1 e1 E1 => by
  rw [if_neg Bool.false_ne_true]; exact h2 F W B1 H1 σ _ E1 fun B2 H2 e2 E2 => k B2 H2 (e1.trans e2) E2
theorem et_or (h : ET T tt ρ a ρ) (h2 : a = false → ET T tu ρ b ρ) : ET T (tOr tt tu) ρ (a || b) ρ := by
  cases a with
  | true => exact et_orT h
  | false => exact et_orF h (h2 rfl)
theorem ee_andT (h : EE T ta ρ (.bool true) ρ1) (h2 : EE T tb ρ1 d ρ2) : EE T (tAndV ta tb) ρ d ρ2 := fun F W B H σ Q E k => h F W B H σ _ E fun v B1 H1 e1 E1 q1 => ⟨true, q1.inv_bl, by
  rw [if_pos rfl]; exact h2 F W B1 H1 σ _ E1 fun u B2 H2 e2 E2 q2 => k u B2 H2 (e1.trans e2) E2 q2⟩
theorem ee_andF (h : EE T ta ρ (.bool false) ρ1) : EE T (tAndV ta tb) ρ (.bool false) ρ1 := fun F W B H σ Q E k => h F W B H σ _ E fun v B1 H1 e1 E1 q1 => ⟨false, q1.inv_bl, by
  rw [if_neg Bool.false_ne_true]; exact k _ B1 H1 e1 E1 (.bl _)⟩
theorem ee_and (h : EE T ta ρ (.bool a) ρ) (h2 : a = true → EE T tb ρ (.bool b) ρ) : EE T (tAndV ta tb) ρ (.bool (a && b)) ρ := by
  cases a with
  | true => exact ee_andT h (h2 rfl)
  | false => exact ee_andF h
theorem ee_orT (h : EE T ta ρ (.bool true) ρ1) : EE T (tOrV ta tb) ρ (.bool true) ρ1 := fun F W B H σ Q E k => h F W B H σ _ E fun v B1 H1 e1 E1 q1 => ⟨true, q1.inv_bl, by
  rw [if_pos rfl]; exact k _ B1 H1 e1 E1 (.bl _)⟩
theorem ee_orF (h : EE T ta ρ (.bool false) ρ1) (h2 : EE T tb ρ1 d ρ2) : EE T (tOrV ta tb) ρ d ρ2 := fun F W B H σ Q E k => h F W B H σ _ E fun v B1 H1 e1 E1 q1 => ⟨false, q1.inv_bl, by
  rw [if_neg Bool.false_ne_true]; exact h2 F W B1 H1 σ _ E1 fun u B2 H2 e2 E2 q2 => k u B2 H2 (e1.trans e2) E2 q2⟩
theorem ee_or (h : EE T ta ρ (.bool a) ρ) (h2 : a = false → EE T tb ρ (.bool b) ρ) : EE T (tOrV ta tb) ρ (.bool (a || b)) ρ := by
  cases a with
  | true => exact ee_orT h
  | false => exact ee_orF h (h2 rfl)
theorem ee_not (h : EE T te ρ (.bool b) ρ1) : EE T (tNotV te) ρ (.bool (!b)) ρ1 := fun F W B H σ Q E k => h F W B H σ _ E fun v B1 H1 e1 E1 q1 => ⟨b, q1.inv_bl, k _ B1 H1 e1 E1 (.bl _)⟩
theorem ee_if (h : ET T tt ρ b ρ1) (h1 : b = true → EE T ta ρ1 d ρ2) (h2 : b = false → EE T tb ρ1 d ρ2) : EE T (tIf tt ta tb) ρ d ρ2 := fun F W B H σ Q E k => h F W B H σ _ E fun B1 H1 e1 E1 => by
  cases b with
  | true => exact h1 rfl F W B1 H1 σ _ E1 fun u B2 H2 e2 E2 q2 => k u B2 H2 (e1.trans e2) E2 q2
  | false => exact h2 rfl F W B1 H1 σ _ E1 fun u B2 H2 e2 E2 q2 => k u B2 H2 (e1.trans e2) E2 q2
/-- lo <= x <= hi -/
theorem ee_chain {r r' : R2} (ha : EE T ta ρ x ρ1) (hb : EE T tb ρ1 y ρ2) (hr : RE r x y (.bool a)) (hc : a = true → ∃ z, EE T tc ρ2 z ρ2 ∧ RE r' y z (.bool b)) : EE T (tChain r r' ta tb tc) ρ (.bool (a && b)) ρ2 := fun F W B H σ Q E k =>
  ha F W B H σ _ E fun v B1 H1 e1 E1 q1 => hb F W B1 H1 σ _ E1 fun u B2 H2 e2 E2 q2 => hr B2 H2 v u _ E2.bh E2.bt (q1.mono e2) q2 fun w B3 H3 g q3 => ⟨a, q3.inv_bl, by
    cases a with
    | true =>
      obtain ⟨z, hz, hr'⟩ := hc rfl
      show tc σ H3 _
      exact hz F W B3 H3 σ _ (E2.grow g) fun w' B4 H4 e4 E4 q4 => hr' B4 H4 u w' Q E4.bh E4.bt (q2.mono (g.bb.trans e4)) q4 fun w2 B5 H5 g5 q5 => k w2 B5 H5 ((((e1.trans e2).trans g.bb).trans e4).trans g5.bb) (E4.grow g5) q5
    | false =>
      show Q (.bl false) H3
      exact k _ B3 H3 ((e1.trans e2).trans g.bb) (E2.grow g) (.bl _)⟩
/-- parts of a slice -/
theorem eo_none : EO T tNoPart ρ none ρ := fun F W B H σ Q E k => k B H (Ex.refl _) E
theorem eo_some {i : Int} (h : EE T te ρ (.int i) ρ1) : EO T (tPart te) ρ (some i) ρ1 := fun F W B H σ Q E k => h F W B H σ _ E fun v B1 H1 e1 E1 q1 => ⟨i, q1.inv_int, k B1 H1 e1 E1⟩
def cutD (xs : List PyData) (lo hi : Option Int) : List PyData := (xs.drop (HT.sIx xs.length 0 lo)).take (HT.sIx xs.length xs.length hi - HT.sIx xs.length 0 lo)
theorem cut_dt {B : Hp} {vs : List V} {lo hi : Option Int} (q : DtAll B vs ds) : DtAll B (cutV vs lo hi) (cutD ds lo hi) := by
  unfold cutV cutD
  rw [q.length]
  exact (q.drop _).take _
theorem el_sl {K : PySem.W.Frag} {tl th : TO} {lo hi : Option Int} (h : EE T te ρ (.list ds) ρ1) (h1 : EO T tl ρ1 lo ρ2) (h2 : EO T th ρ2 hi ρ3) : EL T (tSl (rSlL K) te tl th) ρ (cutD ds lo hi) ρ3 := fun F W B H σ Q E k =>
  h F W B H σ _ E fun v B1 H1 e1 E1 q1 => h1 F W B1 H1 σ _ E1 fun B2 H2 e2 E2 => h2 F W B2 H2 σ _ E2 fun B3 H3 e3 E3 => by
    obtain ⟨a, xs, f1, f2, q⟩ := (q1.mono (e2.trans e3)).inv_lst
    exact ⟨a, xs, f1, SqL.of (E3.bh _ _ f2), fun p hp => k p _ B3 _ ((e1.trans e2).trans e3) (E3.grow (Grow.junk E3.bh hp)) (Evl.fresh_back E3.bh hp) (Evl.fresh_back E3.fh hp) upd_same (cut_dt q) (E3.notOwn hp)⟩
theorem ee_slT {K : PySem.W.Frag} {tl th : TO} {lo hi : Option Int} (h : EE T te ρ (.tuple ds) ρ1) (h1 : EO T tl ρ1 lo ρ2) (h2 : EO T th ρ2 hi ρ3) : EE T (tSl (rSlA K) te tl th) ρ (.tuple (cutD ds lo hi)) ρ3 := fun F W B H σ Q E k =>
  h F W B H σ _ E fun v B1 H1 e1 E1 q1 => h1 F W B1 H1 σ _ E1 fun B2 H2 e2 E2 => h2 F W B2 H2 σ _ E2 fun B3 H3 e3 E3 => by
    have q3 := q1.mono (e2.trans e3)
    obtain ⟨a, xs, f1, f2, q⟩ := q3.inv_tup
    subst f1
    refine ⟨a, xs, rfl, SqT.of (E3.bh _ _ f2), fun hw => ?_, fun hw p hp => ?_⟩
    · have e : cutD ds lo hi = ds := by
        unfold cutD
        rw [← q.length, hw.1, hw.2, List.drop_zero, Nat.sub_zero, q.length, List.take_length]
      exact k _ B3 H3 ((e1.trans e2).trans e3) E3 (by rw [e]; exact q3)
    · have g := Grow.new (o := .tup (cutV xs lo hi)) E3.bh hp (fun ps z => by cases z)
      exact k _ _ _ (((e1.trans e2).trans e3).trans g.bb) (E3.grow g) (.tup upd_same ((cut_dt q).mono g.bb))
end
end DL
namespace DL
open PySem L2
theorem ee_is_bool {T : TL} {te : TE} {ρ ρ1 : List Sl} {a b : Bool} (h : EE T te ρ (.bool a) ρ1) (e : a = b) : EE T te ρ (.bool b) ρ1 := by rw [← e]; exact h
end DL
namespace DL
open PySem L2
open Evl (Ex)

/-! ### statements -/
inductive Out where
  | nx (ρ : List Sl)
  | rt (d : PyData) (ρ : List Sl)
  | ex (C : Addr) (ρ : List Sl)
def Post (T : TL) (X : XK) (F : Hp) (W : Addr → Prop) (D : Ends) (B : Hp) : Out → Prop
  | .nx ρ => ∀ σ' B' H', Ex B B' → Env T F W B' H' σ' ρ → D.nx σ' H'
  | .rt d ρ => ∀ v σ' B' H', Ex B B' → Env T F W B' H' σ' ρ → Dt B' v d → D.rt v H'
  | .ex C ρ => ∀ σ' B' H', Ex B B' → Env T F W B' H' σ' ρ → X (.ref C) none H'
def SS (T : TL) (X : XK) (t : TS) (ρ : List Sl) (o : Out) : Prop := ∀ F W D B H σ, Env T F W B H σ ρ → Post T X F W D B o → t D σ H
/-- a target takes a datum -/
def EG (T : TL) (g : TG) (d : PyData) (ρ ρ' : List Sl) : Prop := ∀ F W B H σ v (Q : Sigma → Hp → Prop), Env T F W B H σ ρ → Dt B v d → (∀ σ', Env T F W B H σ' ρ' → Q σ' H) → g v σ H Q
/-- P d ρ o: one turn -/
inductive ForR (P : PyData → List Sl → Out → Prop) : List PyData → List Sl → Out → Prop
  | nil {ρ : List Sl} : ForR P [] ρ (.nx ρ)
  | next {d : PyData} {ds : List PyData} {ρ ρ1 : List Sl} {o : Out} : P d ρ (.nx ρ1) → ForR P ds ρ1 o → ForR P (d :: ds) ρ o
  | stop {d : PyData} {ds : List PyData} {ρ ρ1 : List Sl} {e : PyData} : P d ρ (.rt e ρ1) → ForR P (d :: ds) ρ (.rt e ρ1)
  | exc {d : PyData} {ds : List PyData} {ρ ρ1 : List Sl} {C : Addr} : P d ρ (.ex C ρ1) → ForR P (d :: ds) ρ (.ex C ρ1)
section
variable {T : TL} {X : XK} {te ta tb tc : TE} {tt tu : TT} {t u : TS} {ρ ρ1 ρ2 ρ3 : List Sl} {d x y z : PyData} {ds es : List PyData} {b : Bool} {o : Out} {g : TG} {i j : Nat} {K : PySem.W.Frag}
theorem Post.le {F : Hp} {W : Addr → Prop} {D : Ends} {B B1 : Hp} (e : Ex B B1) (h : Post T X F W D B o) : Post T X F W D B1 o := by
  cases o with
  | nx ρ => exact fun σ' B' H' e' E => h σ' B' H' (e.trans e') E
  | rt d ρ => exact fun v σ' B' H' e' E => h v σ' B' H' (e.trans e') E
  | ex C ρ => exact fun σ' B' H' e' E => h σ' B' H' (e.trans e') E
theorem ss_next : SS T X tNext ρ (.nx ρ) := fun F W D B H σ E k => k σ B H (Ex.refl _) E
theorem ss_seq (h : SS T X t ρ (.nx ρ1)) (h2 : SS T X u ρ1 o) : SS T X (tSeq t u) ρ o := fun F W D B H σ E k =>
  h F W { D with nx := u D } B H σ E fun σ' B' H' e' E' => h2 F W D B' H' σ' E' (k.le e')
theorem ss_seqR (h : SS T X t ρ (.rt d ρ1)) : SS T X (tSeq t u) ρ (.rt d ρ1) := fun F W D B H σ E k => h F W { D with nx := u D } B H σ E k
theorem ss_seqX {C : Addr} (h : SS T X t ρ (.ex C ρ1)) : SS T X (tSeq t u) ρ (.ex C ρ1) := fun F W D B H σ E k => h F W { D with nx := u D } B H σ E k
theorem ss_if (h : ET T tt ρ b ρ1) (h1 : b = true → SS T X t ρ1 o) (h2 : b = false → SS T X u ρ1 o) : SS T X (tIfS tt t u) ρ o := fun F W D B H σ E k =>
  h F W B H σ _ E fun B' H' e' E' => by
    cases b with
    | true => exact h1 rfl F W D B' H' σ E' (k.le e')
    | false => exact h2 rfl F W D B' H' σ E' (k.le e')
theorem ss_ret (h : EE T te ρ d ρ1) : SS T X (tRet te) ρ (.rt d ρ1) := fun F W D B H σ E k => h F W B H σ _ E fun v B' H' e' E' q => k v σ B' H' e' E' q
theorem ss_drop (h : EE T te ρ d ρ1) : SS T X (tDrop te) ρ (.nx ρ1) := fun F W D B H σ E k => h F W B H σ _ E fun v B' H' e' E' q => k σ B' H' e' E'
theorem ss_set (h : EE T te ρ d ρ1) : SS T X (tAsg te (gName i)) ρ (.nx (ρ1.set i (.dat d))) := fun F W D B H σ E k => h F W B H σ _ E fun v B' H' e' E' q => k _ B' H' e' (E'.set q)
theorem ss_own (h : EL T te ρ ds ρ1) : SS T X (tAsg te (gName i)) ρ (.nx (ρ1.set i (.own none ds))) := fun F W D B H σ E k => h F W B H σ _ E fun p xs B' H' e' E' h1 h2 h3 h4 h5 => k _ B' H' e' (E'.setOwn h1 h2 h3 h4 h5)
theorem ss_par (h : EA T (tCons ta (tCons tb tNil)) ρ [x, y] ρ1) : SS T X (tPar i j (tCons ta (tCons tb tNil))) ρ (.nx ((ρ1.set i (.dat x)).set j (.dat y))) := fun F W D B H σ E k => h F W B H σ _ E fun vs B' H' e' E' q => by
  cases q with
  | cons q1 q2 =>
    cases q2 with
    | cons q2 q3 =>
      cases q3
      exact ⟨_, _, rfl, k _ B' H' e' ((E'.set q1).set q2)⟩
/-- x, y = e, a new list -/
theorem ss_parL (h : EE T ta ρ x ρ1) (h2 : EL T tb ρ1 ds ρ2) : SS T X (tPar i j (tCons ta (tCons tb tNil))) ρ (.nx ((ρ2.set i (.dat x)).set j (.own none ds))) := fun F W D B H σ E k =>
  h F W B H σ _ E fun v B1 H1 e1 E1 q1 => h2 F W B1 H1 σ _ E1 fun p xs B2 H2 e2 E2 h1 h2 h3 h4 h5 => ⟨v, .ref p, rfl, k _ B2 H2 (e1.trans e2) ((E2.set (q1.mono e2)).setOwn h1 h2 h3 h4 (fun a qb es ha => by
    by_cases hi : i = a
    · subst hi
      by_cases hl : i < ρ2.length
      · rw [List.getElem?_set_self hl] at ha; cases ha
      · rw [List.getElem?_eq_none (by simpa using hl)] at ha; cases ha
    · rw [List.getElem?_set_ne hi] at ha ⊢
      exact h5 a qb es ha))⟩
theorem eg_name : EG T (gName i) d ρ (ρ.set i (.dat d)) := fun F W B H σ v Q E q k => k _ (E.set q)
theorem eg_tup2 : EG T (gTup K 2 (gCons (gName i) (gCons (gName j) gNil))) (.tuple [x, y]) ρ ((ρ.set i (.dat x)).set j (.dat y)) := fun F W B H σ v Q E q k => by
  obtain ⟨a, xs, e1, e2, q⟩ := q.inv_tup
  refine ⟨a, xs, e1, SqT.of (E.bh _ _ e2), q.length, ?_⟩
  cases q with
  | cons q1 q2 =>
    cases q2 with
    | cons q2 q3 =>
      cases q3
      exact ⟨_, _, rfl, _, _, rfl, rfl, k _ ((E.set q1).set q2)⟩
theorem ss_asg (h : EE T te ρ d ρ1) (hg : EG T g d ρ1 ρ2) : SS T X (tAsg te g) ρ (.nx ρ2) := fun F W D B H σ E k => h F W B H σ _ E fun v B' H' e' E' q => hg F W B' H' σ v _ E' q fun σ2 E2 => k _ B' H' e' E2
theorem ss_weak (w : Weaker ρ ρ1) (h : SS T X t ρ1 o) : SS T X t ρ o := fun F W D B H σ E k => h F W D B H σ (E.weak w) k
theorem ss_forget (h : SS T X t ρ (.nx ρ1)) (w : Weaker ρ1 ρ2) : SS T X t ρ (.nx ρ2) := fun F W D B H σ E k => h F W D B H σ E fun σ' B' H' e' E' => k σ' B' H' e' (E'.weak w)
theorem ss_forgetR (h : SS T X t ρ (.rt d ρ1)) (w : Weaker ρ1 ρ2) : SS T X t ρ (.rt d ρ2) := fun F W D B H σ E k => h F W D B H σ E fun v σ' B' H' e' E' => k v σ' B' H' e' (E'.weak w)
theorem ss_give {qa : Option Addr} (hi : ρ[i]? = some (.own qa ds)) (h : SS T X t (ρ.set i (.dat (.list ds))) o) : SS T X t ρ o := fun F W D B H σ E k => by
  obtain ⟨B', e, E'⟩ := E.give hi
  exact h F W D B' H σ E' (k.le e)
theorem ss_is {o' : Out} (h : SS T X t ρ o) (e : o = o') : SS T X t ρ o' := by rw [← e]; exact h
/-- found.append(e) -/
theorem ss_app {qa qb : Option Addr} (hi : ρ[i]? = some (.own qa ds)) (h : EE T te ρ d ρ1) (hi1 : ρ1[i]? = some (.own qb es)) (hl : es.length < 100000) : SS T X (tDrop (tBM K "list" rAppend (tVar i) (tCons te tNil))) ρ (.nx (ρ1.set i (.own qb (es ++ [d])))) := fun F W D B H σ E k => by
  obtain ⟨p, xs, h1, h2, h3, h4, h5⟩ := E.own hi
  refine ⟨_, h1, .inl ⟨rfl, xs, SqL.of h4⟩, h F W B H σ _ E fun v B1 H1 e1 E1 q1 => ?_⟩
  obtain ⟨p', ys, f1, f2, f3, f4, f5⟩ := E1.own hi1
  rw [h1] at f1
  cases f1
  exact ⟨p, ys, v, rfl, rfl, f4, by rw [f5.length]; exact sz_lt hl, k σ B1 _ e1 (E1.write hi1 h1 (f5.append (.one q1)))⟩
/-- a place of an own list -/
theorem ee_ixOwn {qa qb : Option Addr} {k : Int} (hi : ρ[i]? = some (.own qa ds)) (h : EE T tb ρ (.int k) ρ1) (hi1 : ρ1[i]? = some (.own qb es)) (ha : atI es k = some d) : EE T (tOp (rIxL K) (tVar i) tb) ρ d ρ1 := fun F W B H σ Q E kk => by
  obtain ⟨p, xs, h1, h2, h3, h4, h5⟩ := E.own hi
  refine ⟨_, h1, h F W B H σ _ E fun v B1 H1 e1 E1 q1 => ?_⟩
  obtain ⟨p', ys, f1, f2, f3, f4, f5⟩ := E1.own hi1
  rw [h1] at f1
  cases f1
  obtain ⟨w, g1, g2⟩ := atI_dt f5 ha
  exact ⟨p, ys, k, w, rfl, q1.inv_int, SqL.of f4, g1, kk w B1 H1 e1 E1 g2⟩
theorem DtAll.set {B : Hp} {v : V} {d : PyData} (h : Dt B v d) : ∀ {vs : List V} {ds : List PyData} (n : Nat), DtAll B vs ds → DtAll B (vs.set n v) (ds.set n d)
  | _, _, _, .nil => .nil
  | _, _, 0, .cons _ q => .cons h q
  | _, _, n + 1, .cons h' q => .cons h' (DtAll.set h n q)
/-- own[k] = e -/
theorem ss_setOwn {qa : Option Addr} {k : Int} {n : Nat} (h : EE T te ρ d ρ1) (hi : ρ1[i]? = some (.own qa es)) (hb : EE T tb ρ1 (.int k) ρ1) (hn : ixN es.length k = some n) : SS T X (tAsg te (gSub (tVar i) tb rSetL)) ρ (.nx (ρ1.set i (.own qa (es.set n d)))) := fun F W D B H σ E kk =>
  h F W B H σ _ E fun v B1 H1 e1 E1 q1 => by
    obtain ⟨p, xs, h1, h2, h3, h4, h5⟩ := E1.own hi
    refine ⟨_, h1, hb F W B1 H1 σ _ E1 fun w B2 H2 e2 E2 q2 => ?_⟩
    obtain ⟨p', ys, f1, f2, f3, f4, f5⟩ := E2.own hi
    rw [h1] at f1
    cases f1
    exact ⟨p, ys, k, n, rfl, q2.inv_int, f4, by rw [f5.length]; exact hn, kk σ B2 _ (e1.trans e2) (E2.write hi h1 (f5.set (q1.mono e2) n))⟩

/-! ### for -/
def TurnD (T : TL) (X : XK) (g : TG) (t : TS) (d : PyData) (ρ : List Sl) (o : Out) : Prop := ∃ ρ', EG T g d ρ ρ' ∧ SS T X t ρ' o
theorem ForR.all {P : PyData → List Sl → Out → Prop} : ∀ {ds : List PyData} {st : Nat → List Sl}, (∀ i d, ds[i]? = some d → P d (st i) (.nx (st (i + 1)))) → ForR P ds (st 0) (.nx (st ds.length))
  | [], st, _ => .nil
  | d :: ds, st, h => .next (h 0 d rfl) (ForR.all (st := fun i => st (i + 1)) fun i e he => h (i + 1) e (by simpa using he))
theorem turn_post {F : Hp} {W : Addr → Prop} {D : Ends} {B : Hp} {Pv : Sigma → Hp → Prop} (h : ∀ C ρ', o ≠ .ex C ρ' ∨ True) (hn : ∀ ρ', o = .nx ρ' → ∀ σ' B' H', Ex B B' → Env T F W B' H' σ' ρ' → Pv σ' H') (hp : (∀ ρ', o ≠ .nx ρ') → Post T X F W D B o) :
    Post T X F W { D with nx := Pv, ct := Pv, bk := D.nx } B o := by
  cases o with
  | nx ρ' => exact hn ρ' rfl
  | rt d ρ' => exact hp (fun _ z => by cases z)
  | ex C ρ' => exact hp (fun _ z => by cases z)
/-- one turn of any loop over data -/
theorem for_step {F : Hp} {W : Addr → Prop} {D : Ends} {B1 : Hp} {ds : List PyData} (k : Post T X F W D B1 o) {i : Nat} {σ : Sigma} {H : Hp} {v : V} {d : PyData} (hi : ds[i]? = some d)
    {B' : Hp} {ρi : List Sl} (e : Ex B1 B') (E : Env T F W B' H σ ρi) (q : Dt B' v d) (R : ForR (TurnD T X g t) (ds.drop i) ρi o) :
    g v σ H fun σ2 H2 => t { D with nx := fun σ H => ∃ B' ρi, Ex B1 B' ∧ Env T F W B' H σ ρi ∧ ForR (TurnD T X g t) (ds.drop (i + 1)) ρi o, ct := fun σ H => ∃ B' ρi, Ex B1 B' ∧ Env T F W B' H σ ρi ∧ ForR (TurnD T X g t) (ds.drop (i + 1)) ρi o, bk := D.nx } σ2 H2 := by
  have hl : i < ds.length := (List.getElem?_eq_some_iff.mp hi).1
  have hd : ds.drop i = d :: ds.drop (i + 1) := by
    rw [List.drop_eq_getElem_cons hl]
    congr 1
    exact (List.getElem?_eq_some_iff.mp hi).2
  rw [hd] at R
  cases R with
  | next p r =>
    obtain ⟨ρ', hg, hs⟩ := p
    exact hg F W B' H σ v _ E q fun σ2 E2 => hs F W _ B' H σ2 E2 fun σ' B2 H2 e2 E3 => ⟨B2, _, e.trans e2, E3, r⟩
  | stop p =>
    obtain ⟨ρ', hg, hs⟩ := p
    exact hg F W B' H σ v _ E q fun σ2 E2 => hs F W _ B' H σ2 E2 fun w σ' B2 H2 e2 E3 q3 => k w σ' B2 H2 (e.trans e2) E3 q3
  | exc p =>
    obtain ⟨ρ', hg, hs⟩ := p
    exact hg F W B' H σ v _ E q fun σ2 E2 => hs F W _ B' H σ2 E2 fun σ' B2 H2 e2 E3 => k σ' B2 H2 (e.trans e2) E3
theorem for_end {F : Hp} {W : Addr → Prop} {D : Ends} {B1 : Hp} {ds : List PyData} (k : Post T X F W D B1 o) {n : Nat} (hn : ds.length ≤ n) {σ : Sigma} {H : Hp} (h : ∃ B' ρi, Ex B1 B' ∧ Env T F W B' H σ ρi ∧ ForR (TurnD T X g t) (ds.drop n) ρi o) : D.nx σ H := by
  obtain ⟨B', ρi, e, E, R⟩ := h
  rw [List.drop_eq_nil_of_le hn] at R
  cases R
  exact k σ B' H e E
theorem ss_forT (h : EE T te ρ (.tuple ds) ρ1) (R : ForR (TurnD T X g t) ds ρ1 o) : SS T X (tFor (iTup K te) g t) ρ o := fun F W D B H σ E k =>
  h F W B H σ _ E fun v B1 H1 e1 E1 q1 => by
    obtain ⟨a, xs, f1, f2, q⟩ := q1.inv_tup
    have k1 := k.le e1
    refine ⟨a, f1, ⟨xs, SqT.of (E1.bh _ _ f2)⟩, for_tup (xs := xs) (fun i σ H => ∃ B' ρi, Ex B1 B' ∧ Env T F W B' H σ ρi ∧ ForR (TurnD T X g t) (ds.drop i) ρi o) ⟨B1, ρ1, Ex.refl _, E1, R⟩ (fun i σ H _ ⟨B', ρi, e, E, _⟩ => SqT.of (E.bh _ _ (e _ _ f2))) (fun i x σ H hx ⟨B', ρi, e, E, R⟩ => ?_) (fun σ H h => for_end k1 (by rw [q.length]; exact Nat.le_refl _) h)⟩
    obtain ⟨d, hd, qd⟩ := q.getV hx
    exact for_step k1 hd e E (qd.mono e) R
theorem ss_forL (h : EE T te ρ (.list ds) ρ1) (R : ForR (TurnD T X g t) ds ρ1 o) : SS T X (tFor (iList K te) g t) ρ o := fun F W D B H σ E k =>
  h F W B H σ _ E fun v B1 H1 e1 E1 q1 => by
    obtain ⟨a, xs, f1, f2, q⟩ := q1.inv_lst
    have k1 := k.le e1
    refine ⟨a, f1, ⟨xs, SqL.of (E1.bh _ _ f2)⟩, for_list (xs := xs) (fun i σ H => ∃ B' ρi, Ex B1 B' ∧ Env T F W B' H σ ρi ∧ ForR (TurnD T X g t) (ds.drop i) ρi o) ⟨B1, ρ1, Ex.refl _, E1, R⟩ (fun i σ H _ ⟨B', ρi, e, E, _⟩ => SqL.of (E.bh _ _ (e _ _ f2))) (fun i x σ H hx ⟨B', ρi, e, E, R⟩ => ?_) (fun σ H h => for_end k1 (by rw [q.length]; exact Nat.le_refl _) h)⟩
    obtain ⟨d, hd, qd⟩ := q.getV hx
    exact for_step k1 hd e E (qd.mono e) R
def rng (lo : Int) (n : Nat) : List PyData := (List.range n).map fun (i : Nat) => .int (lo + (i : Int))
theorem rng_get {lo : Int} {n i : Nat} (h : i < n) : (rng lo n)[i]? = some (.int (lo + (i : Int))) := by
  unfold rng
  rw [List.getElem?_map, List.getElem?_range h]
  rfl
theorem rng_len (lo : Int) (n : Nat) : (rng lo n).length = n := by unfold rng; rw [List.length_map, List.length_range]
theorem ss_forR1 {ta : TA} {n : Int} (h : EA T ta ρ [.int n] ρ1) (hn : -100000 ≤ n ∧ n ≤ 100000) (R : ForR (TurnD T X g t) (rng 0 n.toNat) ρ1 o) : SS T X (tFor (iRng1 ta) g t) ρ o := fun F W D B H σ E k =>
  h F W B H σ _ E fun vs B1 H1 e1 E1 q1 => by
    have k1 := k.le e1
    have ev : vs = [.int n] := by cases q1 with | cons q1 q2 => cases q2; rw [q1.inv_int]
    refine ⟨n, ev, by omega, by omega, for_range (lo := 0) (n := n.toNat) (fun i σ H => ∃ B' ρi, Ex B1 B' ∧ Env T F W B' H σ ρi ∧ ForR (TurnD T X g t) ((rng 0 n.toNat).drop i) ρi o) ⟨B1, ρ1, Ex.refl _, E1, R⟩ (fun i σ H hi ⟨B', ρi, e, E, R⟩ => ?_) (fun σ H h => for_end k1 (by rw [rng_len]; exact Nat.le_refl _) h)⟩
    exact for_step k1 (rng_get hi) e E (.int _) R
theorem ss_forR2 {ta : TA} {lo n : Int} (h : EA T ta ρ [.int lo, .int n] ρ1) (hl : -100000 ≤ lo ∧ lo ≤ 100000) (hn : -100000 ≤ n ∧ n ≤ 100000) (R : ForR (TurnD T X g t) (rng lo (n - lo).toNat) ρ1 o) : SS T X (tFor (iRng2 ta) g t) ρ o := fun F W D B H σ E k =>
  h F W B H σ _ E fun vs B1 H1 e1 E1 q1 => by
    have k1 := k.le e1
    have ev : vs = [.int lo, .int n] := by cases q1 with | cons q1 q2 => cases q2 with | cons q2 q3 => cases q3; rw [q1.inv_int, q2.inv_int]
    refine ⟨lo, n, ev, ⟨by omega, by omega, by omega, by omega⟩, for_range (lo := lo) (n := (n - lo).toNat) (fun i σ H => ∃ B' ρi, Ex B1 B' ∧ Env T F W B' H σ ρi ∧ ForR (TurnD T X g t) ((rng lo (n - lo).toNat).drop i) ρi o) ⟨B1, ρ1, Ex.refl _, E1, R⟩ (fun i σ H hi ⟨B', ρi, e, E, R⟩ => ?_) (fun σ H h => for_end k1 (by rw [rng_len]; exact Nat.le_refl _) h)⟩
    exact for_step k1 (rng_get hi) e E (.int _) R
end

/-! ### comprehensions -/
def wipeS (ρ : List Sl) : List Nat → List Sl
  | [] => ρ
  | v :: vs => (wipeS ρ vs).set v .no
theorem wipeS_len (ρ : List Sl) : ∀ vs, (wipeS ρ vs).length = ρ.length
  | [] => rfl
  | v :: vs => by unfold wipeS; rw [List.length_set, wipeS_len ρ vs]
theorem wipeS_get {ρ : List Sl} {i : Nat} {s : Sl} : ∀ {vs : List Nat}, (wipeS ρ vs)[i]? = some s → s = .no ∨ (i ∉ vs ∧ ρ[i]? = some s)
  | [], h => .inr ⟨by simp, h⟩
  | v :: vs, h => by
    unfold wipeS at h
    by_cases hi : v = i
    · subst hi
      by_cases hv : v < (wipeS ρ vs).length
      · rw [List.getElem?_set_self hv] at h; cases h; exact .inl rfl
      · rw [List.getElem?_eq_none (by simpa using hv)] at h; cases h
    · rw [List.getElem?_set_ne hi] at h
      rcases wipeS_get h with h1 | ⟨h1, h2⟩
      · exact .inl h1
      · exact .inr ⟨by simp only [List.mem_cons, not_or]; exact ⟨fun e => hi e.symm, h1⟩, h2⟩
theorem wipe_get {σ : Sigma} {i : Nat} : ∀ {vs : List Nat}, i ∉ vs → (wipe σ vs)[i]? = σ[i]? := fun h => wipe_out h
section
variable {T : TL} {F : Hp} {W : Addr → Prop} {B H B' H' : Hp} {σ σ2 : Sigma} {ρ ρ' ρ2 : List Sl}
theorem Env.wipe {vs : List Nat} (E : Env T F W B H σ ρ) : Env T F W B H (L2.wipe σ vs) (wipeS ρ vs) where
  fh := E.fh
  bh := E.bh
  wf := E.wf
  wb := E.wb
  tb := E.tb
  ft := E.ft
  bt := E.bt
  ln := by rw [wipe_length, wipeS_len]; exact E.ln
  sl := fun j s hs => by
    rcases wipeS_get hs with h | ⟨h1, h2⟩
    · subst h
      have hl : j < (L2.wipe σ vs).length := by rw [wipe_length, E.ln, ← wipeS_len ρ vs]; exact (List.getElem?_eq_some_iff.mp hs).1
      exact ⟨_, List.getElem?_eq_getElem hl, trivial⟩
    · rw [wipe_out h1]; exact E.sl j s h2
  ne := fun a b p q q' ds es hab ha hb => by
    rcases wipeS_get ha with h | ⟨h1, h2⟩
    · cases h
    · rcases wipeS_get hb with h' | ⟨h1', h2'⟩
      · cases h'
      · rw [wipe_out h1, wipe_out h1']; exact E.ne a b p q q' ds es hab h2 h2'
/-- back from a block to the names around it -/
theorem Env.back (E : Env T F W B H σ ρ) (e : Ex B B') (E2 : Env T F W B' H' σ2 ρ2) (hl : ρ'.length = ρ.length) (ho : ∀ (i : Nat) qa ds, ρ'[i]? = some (.own qa ds) → ρ2[i]? = some (.own qa ds) ∧ σ2[i]? = σ[i]?) (hd : (∀ (i : Nat) d, ρ'[i]? = some (.dat d) → ρ[i]? = some (.dat d)) ∧ ∀ (i : Nat) v, ρ'[i]? = some (.is v) → ρ[i]? = some (.is v)) : Env T F W B' H' σ ρ' where
  fh := E2.fh
  bh := E2.bh
  wf := E2.wf
  wb := E2.wb
  tb := E2.tb
  ft := E2.ft
  bt := E2.bt
  ln := E.ln.trans hl.symm
  sl := fun j s hs => by
    cases s with
    | no =>
      have hl' : j < σ.length := by rw [E.ln, ← hl]; exact (List.getElem?_eq_some_iff.mp hs).1
      exact ⟨_, List.getElem?_eq_getElem hl', trivial⟩
    | dat d =>
      obtain ⟨v, h1, h2⟩ := E.dat (hd.1 j d hs)
      exact ⟨_, h1, v, rfl, h2.mono e⟩
    | own qa ds =>
      obtain ⟨h1, h2⟩ := ho j qa ds hs
      rw [← h2]
      exact E2.sl j _ h1
    | is k =>
      obtain ⟨o, h1, h2⟩ := E.sl j _ (hd.2 j k hs)
      exact ⟨o, h1, k.mono e h2⟩
  ne := fun a b p q q' ds es hab ha hb => by
    obtain ⟨h1, h2⟩ := ho a q ds ha
    obtain ⟨h3, h4⟩ := ho b q' es hb
    rw [← h2, ← h4]
    exact E2.ne a b p q q' ds es hab h1 h3
end
/-- one turn of a comprehension: outer names ρ to ρ'; gives what is added -/
def LcT (T : TL) (g : TG) (tt : TT) (te : TE) (vs : List Nat) (d : PyData) (ρ : List Sl) (es : List PyData) (ρ' : List Sl) : Prop :=
  ρ'.length = ρ.length ∧ ((∀ (i : Nat) d, ρ'[i]? = some (.dat d) → ρ[i]? = some (.dat d)) ∧ ∀ (i : Nat) v, ρ'[i]? = some (.is v) → ρ[i]? = some (.is v)) ∧ (∀ (i : Nat) qa ds, ρ'[i]? = some (.own qa ds) → i ∉ vs) ∧
  (∀ (σ : Sigma) H (v : V) (Q Q' : Sigma → Hp → Prop), g v (wipe σ vs) H Q → (∀ σ2 H2, (∀ i, i ∉ vs → σ2[i]? = σ[i]?) → wipe σ2 vs = wipe σ vs → Q σ2 H2 → Q' σ2 H2) → g v (wipe σ vs) H Q') ∧
  ∃ ρa b ρb, EG T g d (wipeS ρ vs) ρa ∧ ET T tt ρa b ρb ∧ ((b = false ∧ es = [] ∧ (∀ (i : Nat) qa ds, ρ'[i]? = some (.own qa ds) → ρb[i]? = some (.own qa ds))) ∨
    (b = true ∧ ∃ e ρc, es = [e] ∧ EE T te ρb e ρc ∧ (∀ (i : Nat) qa ds, ρ'[i]? = some (.own qa ds) → ρc[i]? = some (.own qa ds))))
inductive LcR (P : PyData → List Sl → List PyData → List Sl → Prop) : List PyData → List Sl → List PyData → List Sl → Prop
  | nil {ρ} : LcR P [] ρ [] ρ
  | cons {d ds ρ es ρ1 fs ρ2} : P d ρ es ρ1 → LcR P ds ρ1 fs ρ2 → LcR P (d :: ds) ρ (es ++ fs) ρ2
section
variable {T : TL} {te : TE} {tt : TT} {ρ ρ1 ρ2 ρ3 : List Sl} {d x y z : PyData} {ds es fs : List PyData} {g : TG} {vs : List Nat} {K : PySem.W.Frag} {i j : Nat}
/-- the state of a comprehension in turn i: es the list so far, rest to come -/
def LcI (T : TL) (g : TG) (tt : TT) (te : TE) (vs : List Nat) (F : Hp) (W : Addr → Prop) (B1 : Hp) (σ : Sigma) (D : Addr) (ds es : List PyData) (ρ' : List Sl) (n : Nat) (H : Hp) : Prop :=
  ∃ B' ρi xs acc rest, Ex B1 B' ∧ Env T F W B' H σ ρi ∧ B' D = none ∧ F D = none ∧ NotOwn σ ρi D ∧ H D = some (.lst xs) ∧ DtAll B' xs acc ∧ LcR (LcT T g tt te vs) (ds.drop n) ρi rest ρ' ∧ es = acc ++ rest
/-- the list at D put among the frame's things -/
theorem Env.hide {F : Hp} {W : Addr → Prop} {B H : Hp} {σ : Sigma} {ρ : List Sl} {D : Addr} {xs : List V} (E : Env T F W B H σ ρ) (h1 : B D = none) (h3 : H D = some (.lst xs)) (hn : NotOwn σ ρ D) : Env T (upd F D (.lst xs)) (fun p => W p ∨ p = D) B H σ ρ where
  fh := fun a o ha => by
    by_cases z : a = D
    · subst z; rw [upd_same] at ha; rw [h3]; exact ha
    · rw [upd_ne z] at ha; exact E.fh a o ha
  bh := E.bh
  wf := fun p hp => by
    by_cases z : p = D
    · subst z; rw [upd_same]; exact fun z => by cases z
    · rw [upd_ne z]; exact E.wf p (hp.resolve_right z)
  wb := fun p hp => by
    rcases hp with h | h
    · exact E.wb p h
    · rw [h]; exact h1
  tb := E.tb
  ft := fun hT p ps => by
    by_cases z : p = D
    · subst z; rw [upd_same]; exact fun z => by cases z
    · rw [upd_ne z]; exact E.ft hT p ps
  bt := E.bt
  ln := E.ln
  sl := fun j s hs => by
    obtain ⟨o, e1, e2⟩ := E.sl j s hs
    refine ⟨o, e1, ?_⟩
    cases s with
    | no => trivial
    | dat d => exact e2
    | is v => exact e2
    | own qb es =>
      obtain ⟨r, ys, e', k1, k2, k3, q', qq⟩ := e2
      subst e'
      exact ⟨r, ys, rfl, k1, by rw [upd_ne (fun z => by subst z; exact hn j qb es hs e1)]; exact k2, k3, q', qq⟩
  ne := E.ne
theorem Env.unhide {F : Hp} {W : Addr → Prop} {B H : Hp} {σ : Sigma} {ρ : List Sl} {D : Addr} {xs : List V} (hF : F D = none) (E : Env T (upd F D (.lst xs)) (fun p => W p ∨ p = D) B H σ ρ) (wf : ∀ p, W p → F p ≠ none) (ft : T ≠ [] → ∀ p ps, F p ≠ some (.tbl ps)) : Env T F W B H σ ρ ∧ B D = none ∧ H D = some (.lst xs) ∧ NotOwn σ ρ D where
  left :=
    { fh := fun a o ha => E.fh a o (by rw [upd_ne (ne_of_none ha hF)]; exact ha)
      bh := E.bh
      wf := wf
      wb := fun p hp => E.wb p (.inl hp)
      tb := E.tb
      ft := ft
      bt := E.bt
      ln := E.ln
      sl := fun j s hs => by
        obtain ⟨o, e1, e2⟩ := E.sl j s hs
        refine ⟨o, e1, ?_⟩
        cases s with
        | no => trivial
        | dat d => exact e2
        | is v => exact e2
        | own qb es =>
          obtain ⟨r, ys, e', k1, k2, k3, q', qq⟩ := e2
          subst e'
          refine ⟨r, ys, rfl, k1, ?_, k3, q', qq⟩
          by_cases z : r = D
          · rw [z]; exact hF
          · rw [upd_ne z] at k2; exact k2
      ne := E.ne }
  right := ⟨E.wb D (.inr rfl), E.fh D _ upd_same, fun j qb es hs e1 => by
    obtain ⟨p, ys, f1, f2, f3, _⟩ := E.own hs
    rw [e1] at f1
    cases f1
    rw [upd_same] at f3
    cases f3⟩
/-- a frame's own list is written that no name holds -/
theorem Env.other {F : Hp} {W : Addr → Prop} {B H : Hp} {σ : Sigma} {ρ : List Sl} {D : Addr} {xs ys : List V} (E : Env T F W B H σ ρ) (h1 : B D = none) (h2 : F D = none) (h3 : H D = some (.lst xs)) (hn : NotOwn σ ρ D) : Env T F W B (upd H D (.lst ys)) σ ρ where
  fh := fun a o ha => by rw [upd_ne (ne_of_none ha h2)]; exact E.fh a o ha
  bh := fun a o ha => by rw [upd_ne (ne_of_none ha h1)]; exact E.bh a o ha
  wf := E.wf
  wb := E.wb
  tb := fun t ht => by
    obtain ⟨ps, q1, q2, q3⟩ := E.tb t ht
    refine ⟨ps, ?_, q2, fun pos cv hc => ?_⟩
    · rw [upd_ne (ne_of q1 h3 (fun z => by cases z))]; exact q1
    · obtain ⟨c, e1, e2⟩ := q3 pos cv hc
      refine ⟨c, e1, ?_⟩
      rw [upd_ne (ne_of e2 h3 (fun z => by unfold LamX.CodeO at z; cases z))]; exact e2
  ft := E.ft
  bt := E.bt
  ln := E.ln
  sl := fun j s hs => by
    obtain ⟨o, e1, e2⟩ := E.sl j s hs
    refine ⟨o, e1, ?_⟩
    cases s with
    | no => trivial
    | dat d => exact e2
    | is v => exact e2
    | own qb es =>
      obtain ⟨r, zs, e', k1, k2, k3, q', qq⟩ := e2
      subst e'
      exact ⟨r, zs, rfl, k1, k2, by rw [upd_ne (fun z => by subst z; exact hn j qb es hs e1)]; exact k3, q', qq⟩
  ne := E.ne
end
end DL
namespace DL
open PySem L2 PyProof.Rows
open Evl (Ex)
section
variable {T : TL} {te tl : TE} {tt : TT} {ρ ρ1 ρ2 ρ3 : List Sl} {d e x y z : PyData} {ds es fs : List PyData} {g : TG} {vs : List Nat} {K : PySem.W.Frag} {i j k q : Nat} {b : Bool}
theorem lc_turn {F : Hp} {W : Addr → Prop} {B1 : Hp} {σ : Sigma} {D : Addr} {ρ' : List Sl} {n : Nat} {H : Hp} {v : V} (hn : ds[n]? = some d) (hl : es.length ≤ 100000) (hv : ∀ B', Ex B1 B' → Dt B' v d)
    (I : LcI T g tt te vs F W B1 σ D ds es ρ' n H) :
    g v (wipe σ vs) H fun σ2 H2 => wipe σ2 vs = wipe σ vs ∧ tt σ2 H2 fun b H3 =>
      if b = true then te σ2 H3 fun y H4 => ∃ acc, H4 D = some (.lst acc) ∧ acc.length < sizeLine ∧ LcI T g tt te vs F W B1 σ D ds es ρ' (n + 1) (upd H4 D (.lst (acc ++ [y]))) else LcI T g tt te vs F W B1 σ D ds es ρ' (n + 1) H3 := by
  obtain ⟨B', ρi, xs, acc, rest, e1, E, h1, h2, h3, h4, h5, R, he⟩ := I
  have hlen : n < ds.length := (List.getElem?_eq_some_iff.mp hn).1
  have hd : ds.drop n = d :: ds.drop (n + 1) := by
    rw [List.drop_eq_getElem_cons hlen]
    congr 1
    exact (List.getElem?_eq_some_iff.mp hn).2
  rw [hd] at R
  generalize hdd : d :: ds.drop (n + 1) = dd at R
  cases R with
  | nil => cases hdd
  | cons P R' =>
    cases hdd
    rename_i es1 ρ1 fs1
    obtain ⟨l1, hdat, hown, hmon, ρa, b, ρb, hg, htt, hcase⟩ := P
    have Eh := (E.hide h1 h4 h3).wipe (vs := vs)
    refine hmon σ H v _ _ (hg _ _ B' H _ v (fun σ2 H2 => H2 = H ∧ Env T (upd F D (.lst xs)) (fun p => W p ∨ p = D) B' H σ2 ρa) Eh (hv B' e1) fun σ2 E2 => ⟨rfl, E2⟩) fun σ2 H2 hs hw q2 => ?_
    obtain ⟨rfl, E2⟩ := q2
    refine ⟨hw, htt _ _ B' _ σ2 _ E2 fun B2 H3 e2 E3 => ?_⟩
    have fin : ∀ {B3 H4 ρc}, Ex B' B3 → Env T (upd F D (.lst xs)) (fun p => W p ∨ p = D) B3 H4 σ2 ρc → (∀ (i : Nat) qa ds, ρ1[i]? = some (.own qa ds) → ρc[i]? = some (.own qa ds)) →
        Env T F W B3 H4 σ ρ1 ∧ B3 D = none ∧ H4 D = some (.lst xs) ∧ NotOwn σ ρ1 D := fun {B3 H4 ρc} e3 E4 ho => by
      obtain ⟨E5, k1, k2, k3⟩ := Env.unhide h2 E4 E.wf E.ft
      have own2 : ∀ (i : Nat) qa ds, ρ1[i]? = some (.own qa ds) → ρc[i]? = some (.own qa ds) ∧ σ2[i]? = σ[i]? := fun i qa ds hi => ⟨ho i qa ds hi, hs i (hown i qa ds hi)⟩
      refine ⟨E.back e3 E5 l1 own2 hdat, k1, k2, fun i qa ds hi hσ => ?_⟩
      obtain ⟨a1, a2⟩ := own2 i qa ds hi
      exact k3 i qa ds a1 (by rw [a2]; exact hσ)
    rcases hcase with ⟨hb, hes, ho⟩ | ⟨hb, e, ρc, hes, hte, ho⟩
    · subst hb hes
      show LcI T g tt te vs F W B1 σ D ds es ρ' (n + 1) H3
      obtain ⟨E5, k1, k2, k3⟩ := fin e2 E3 ho
      exact ⟨B2, ρ1, xs, acc, fs1, e1.trans e2, E5, k1, h2, k3, k2, h5.mono e2, R', by simpa using he⟩
    · subst hb hes
      show te σ2 H3 _
      refine hte _ _ B2 H3 σ2 _ E3 fun y B3 H4 e3 E4 qy => ?_
      obtain ⟨E5, k1, k2, k3⟩ := fin (e2.trans e3) E4 ho
      refine ⟨xs, k2, ?_, B3, ρ1, xs ++ [y], acc ++ [e], fs1, e1.trans (e2.trans e3), E5.other k1 h2 k2 k3, k1, h2, k3, upd_same, (h5.mono (e2.trans e3)).append (.one qy), R', by simpa using he⟩
      have : xs.length = acc.length := h5.length
      rw [he] at hl
      simp at hl
      exact sz_lt (by omega)
theorem lc_start {F : Hp} {W : Addr → Prop} {B1 H1 : Hp} {σ : Sigma} {D : Addr} (E : Env T F W B1 H1 σ ρ1) (hD : H1 D = none) (R : LcR (LcT T g tt te vs) ds ρ1 es ρ2) : LcI T g tt te vs F W B1 σ D ds es ρ2 0 (upd H1 D (.lst [])) :=
  ⟨B1, ρ1, [], [], es, Ex.refl _, E.grow (Grow.junk E.bh hD), Evl.fresh_back E.bh hD, Evl.fresh_back E.fh hD, E.notOwn hD, upd_same, .nil, R, rfl⟩
theorem lc_end {F : Hp} {W : Addr → Prop} {B B1 : Hp} {σ : Sigma} {D : Addr} {n : Nat} {H : Hp} {Q : VK} (e1 : Ex B B1) (hn : ds.length ≤ n) (k : ∀ p xs B' H', Ex B B' → Env T F W B' H' σ ρ2 → B' p = none → F p = none → H' p = some (.lst xs) → DtAll B' xs es → NotOwn σ ρ2 p → Q (.ref p) H')
    (I : LcI T g tt te vs F W B1 σ D ds es ρ2 n H) : Q (.ref D) H := by
  obtain ⟨B', ρi, xs, acc, rest, e2, E, h1, h2, h3, h4, h5, R, he⟩ := I
  rw [List.drop_eq_nil_of_le hn] at R
  cases R
  rw [List.append_nil] at he
  subst he
  exact k D xs B' H (e1.trans e2) E h1 h2 h4 h5 h3
theorem el_lcT (h : EE T tl ρ (.tuple ds) ρ1) (R : LcR (LcT T g tt te vs) ds ρ1 es ρ2) (hl : es.length ≤ 100000) : EL T (tLc (iTup K tl) g tt te vs) ρ es ρ2 := fun F W B H σ Q E k =>
  h F W B H σ _ E fun v B1 H1 e1 E1 q1 => by
    obtain ⟨a, xs, f1, f2, q⟩ := q1.inv_tup
    refine ⟨a, f1, ⟨xs, SqT.of (E1.bh _ _ f2)⟩, fun D hD => lc_tup (xs := xs) (LcI T g tt te vs F W B1 σ D ds es ρ2) (lc_start E1 hD R) (fun i H _ ⟨B', ρi, _, _, _, e, E, _⟩ => SqT.of (E.bh _ _ (e _ _ f2))) (fun i x H hx I => ?_) (fun H I => lc_end e1 (by rw [q.length]; exact Nat.le_refl _) k I)⟩
    obtain ⟨d, hd, qd⟩ := q.getV hx
    exact lc_turn hd hl (fun B' e => qd.mono e) I
theorem el_lcL (h : EE T tl ρ (.list ds) ρ1) (R : LcR (LcT T g tt te vs) ds ρ1 es ρ2) (hl : es.length ≤ 100000) : EL T (tLc (iList K tl) g tt te vs) ρ es ρ2 := fun F W B H σ Q E k =>
  h F W B H σ _ E fun v B1 H1 e1 E1 q1 => by
    obtain ⟨a, xs, f1, f2, q⟩ := q1.inv_lst
    refine ⟨a, f1, ⟨xs, SqL.of (E1.bh _ _ f2)⟩, fun D hD => lc_list (xs := xs) (LcI T g tt te vs F W B1 σ D ds es ρ2) (lc_start E1 hD R) (fun i H _ ⟨B', ρi, _, _, _, e, E, _⟩ => SqL.of (E.bh _ _ (e _ _ f2))) (fun i x H hx I => ?_) (fun H I => lc_end e1 (by rw [q.length]; exact Nat.le_refl _) k I)⟩
    obtain ⟨d, hd, qd⟩ := q.getV hx
    exact lc_turn hd hl (fun B' e => qd.mono e) I
theorem el_lcR1 {ta : TA} {n : Int} (h : EA T ta ρ [.int n] ρ1) (hn : -100000 ≤ n ∧ n ≤ 100000) (R : LcR (LcT T g tt te vs) (rng 0 n.toNat) ρ1 es ρ2) (hl : es.length ≤ 100000) : EL T (tLc (iRng1 ta) g tt te vs) ρ es ρ2 := fun F W B H σ Q E k =>
  h F W B H σ _ E fun us B1 H1 e1 E1 q1 => by
    have ev : us = [.int n] := by cases q1 with | cons q1 q2 => cases q2; rw [q1.inv_int]
    refine ⟨n, ev, by omega, by omega, fun D hD => lc_range (lo := 0) (n := n.toNat) (LcI T g tt te vs F W B1 σ D (rng 0 n.toNat) es ρ2) (lc_start E1 hD R) (fun i H hi I => ?_) (fun H I => lc_end e1 (by rw [rng_len]; exact Nat.le_refl _) k I)⟩
    exact lc_turn (rng_get hi) hl (fun B' e => .int _) I
theorem el_lcR2 {ta : TA} {lo n : Int} (h : EA T ta ρ [.int lo, .int n] ρ1) (hlo : -100000 ≤ lo ∧ lo ≤ 100000) (hn : -100000 ≤ n ∧ n ≤ 100000) (R : LcR (LcT T g tt te vs) (rng lo (n - lo).toNat) ρ1 es ρ2) (hl : es.length ≤ 100000) : EL T (tLc (iRng2 ta) g tt te vs) ρ es ρ2 := fun F W B H σ Q E k =>
  h F W B H σ _ E fun us B1 H1 e1 E1 q1 => by
    have ev : us = [.int lo, .int n] := by cases q1 with | cons q1 q2 => cases q2 with | cons q2 q3 => cases q3; rw [q1.inv_int, q2.inv_int]
    refine ⟨lo, n, ev, ⟨by omega, by omega, by omega, by omega⟩, fun D hD => lc_range (lo := lo) (n := (n - lo).toNat) (LcI T g tt te vs F W B1 σ D (rng lo (n - lo).toNat) es ρ2) (lc_start E1 hD R) (fun i H hi I => ?_) (fun H I => lc_end e1 (by rw [rng_len]; exact Nat.le_refl _) k I)⟩
    exact lc_turn (rng_get hi) hl (fun B' e => .int _) I
theorem et_yes : ET T tYes ρ true ρ := fun F W B H σ Q E k => k B H (Ex.refl _) E
/-- one turn, a name as target; an own list at q may change (q beyond the names: none) -/
theorem wipe1_set (σ : Sigma) (j : Nat) (v : V) : wipe ((wipe σ [j]).set j (some v)) [j] = wipe σ [j] := by
  show (((σ.set j none).set j (some v)).set j none) = σ.set j none
  rw [List.set_set, List.set_set]
theorem lc1s {qo : Option Addr} {c c' : List PyData} {ρb : List Sl} (hj : ∀ qa ds, ρ[j]? ≠ some (.own qa ds)) (hq : q ≠ j) (hc : ρ[q]? = some (.own qo c)) (ht : ET T tt (ρ.set j (.dat d)) b ρb)
    (h0 : b = false → ρb = (ρ.set j (.dat d)).set q (.own qo c')) (h1 : b = true → EE T te ρb e ((ρ.set j (.dat d)).set q (.own qo c'))) : LcT T (gName j) tt te [j] d ρ (if b then [e] else []) (ρ.set q (.own qo c')) := by
  have hql : q < ρ.length := (List.getElem?_eq_some_iff.mp hc).1
  have own : ∀ (i : Nat) qa ds, (ρ.set q (.own qo c'))[i]? = some (.own qa ds) → ((ρ.set j (.dat d)).set q (.own qo c'))[i]? = some (.own qa ds) := fun i qa ds hi => by
    by_cases hiq : q = i
    · subst hiq
      rw [List.getElem?_set_self hql] at hi
      rw [List.getElem?_set_self (by rw [List.length_set]; exact hql)]
      exact hi
    · rw [List.getElem?_set_ne hiq] at hi ⊢
      have : j ≠ i := fun z => by subst z; exact hj _ ds hi
      rw [List.getElem?_set_ne this]
      exact hi
  refine ⟨List.length_set, ⟨fun i d' hi => ?_, fun i d' hi => ?_⟩, fun i qa ds hi => ?_, fun σ H v Q Q' h1 h2 => h2 _ _ (fun i hi => ?_) (wipe1_set σ j v) h1, ρ.set j (.dat d), b, ρb, ?_, ht, ?_⟩
  · by_cases hiq : q = i
    · subst hiq; rw [List.getElem?_set_self hql] at hi; cases hi
    · rw [List.getElem?_set_ne hiq] at hi; exact hi
  · by_cases hiq : q = i
    · subst hiq; rw [List.getElem?_set_self hql] at hi; cases hi
    · rw [List.getElem?_set_ne hiq] at hi; exact hi
  · by_cases hiq : q = i
    · subst hiq; simpa using hq
    · rw [List.getElem?_set_ne hiq] at hi
      simp only [List.mem_cons, List.not_mem_nil, or_false]
      rintro rfl
      exact hj _ ds hi
  · have hij : j ≠ i := fun z => hi (by simp [z])
    show ((σ.set j none).set j (some v))[i]? = σ[i]?
    rw [List.getElem?_set_ne hij, List.getElem?_set_ne hij]
  · have e1 : (wipeS ρ [j]).set j (.dat d) = ρ.set j (.dat d) := by
      show (ρ.set j .no).set j (.dat d) = _
      rw [List.set_set]
    rw [← e1]
    exact eg_name
  · cases b with
    | true => exact .inr ⟨rfl, e, _, rfl, h1 rfl, own⟩
    | false => exact .inl ⟨rfl, rfl, by rw [h0 rfl]; exact own⟩
theorem lc1 (hj : ∀ qa ds, ρ[j]? ≠ some (.own qa ds)) (ht : ET T tt (ρ.set j (.dat d)) b (ρ.set j (.dat d))) (h1 : b = true → EE T te (ρ.set j (.dat d)) e (ρ.set j (.dat d))) : LcT T (gName j) tt te [j] d ρ (if b then [e] else []) ρ := by
  have own : ∀ (i : Nat) qa ds, ρ[i]? = some (.own qa ds) → (ρ.set j (.dat d))[i]? = some (.own qa ds) := fun i qa ds hi => by
    have : j ≠ i := fun z => by subst z; exact hj _ ds hi
    rw [List.getElem?_set_ne this]
    exact hi
  refine ⟨rfl, ⟨fun i d' hi => hi, fun i d' hi => hi⟩, fun i qa ds hi => ?_, fun σ H v Q Q' h1 h2 => h2 _ _ (fun i hi => ?_) (wipe1_set σ j v) h1, ρ.set j (.dat d), b, _, ?_, ht, ?_⟩
  · simp only [List.mem_cons, List.not_mem_nil, or_false]
    rintro rfl
    exact hj _ ds hi
  · have hij : j ≠ i := fun z => hi (by simp [z])
    show ((σ.set j none).set j (some v))[i]? = σ[i]?
    rw [List.getElem?_set_ne hij, List.getElem?_set_ne hij]
  · have e1 : (wipeS ρ [j]).set j (.dat d) = ρ.set j (.dat d) := by
      show (ρ.set j .no).set j (.dat d) = _
      rw [List.set_set]
    rw [← e1]
    exact eg_name
  · cases b with
    | true => exact .inr ⟨rfl, e, _, rfl, h1 rfl, own⟩
    | false => exact .inl ⟨rfl, rfl, own⟩
theorem lc1m (hj : ∀ qa ds, ρ[j]? ≠ some (.own qa ds)) (h1 : EE T te (ρ.set j (.dat d)) e (ρ.set j (.dat d))) : LcT T (gName j) tYes te [j] d ρ [e] ρ := lc1 (b := true) hj et_yes fun _ => h1
/-- .. a pair of names -/
theorem lc2 (hjk : j ≠ k) (hj : ∀ qa ds, ρ[j]? ≠ some (.own qa ds)) (hk : ∀ qa ds, ρ[k]? ≠ some (.own qa ds)) (ht : ET T tt ((ρ.set j (.dat x)).set k (.dat y)) b ((ρ.set j (.dat x)).set k (.dat y))) (h1 : b = true → EE T te ((ρ.set j (.dat x)).set k (.dat y)) e ((ρ.set j (.dat x)).set k (.dat y))) :
    LcT T (gTup K 2 (gCons (gName j) (gCons (gName k) gNil))) tt te [j, k] (.tuple [x, y]) ρ (if b then [e] else []) ρ := by
  have own : ∀ (i : Nat) qa ds, ρ[i]? = some (.own qa ds) → ((ρ.set j (.dat x)).set k (.dat y))[i]? = some (.own qa ds) := fun i qa ds hi => by
    have n1 : j ≠ i := fun z => by subst z; exact hj _ ds hi
    have n2 : k ≠ i := fun z => by subst z; exact hk _ ds hi
    rw [List.getElem?_set_ne n2, List.getElem?_set_ne n1]
    exact hi
  refine ⟨rfl, ⟨fun i d' hi => hi, fun i d' hi => hi⟩, fun i qa ds hi => ?_, fun σ H v Q Q' h1 h2 => ?_, (ρ.set j (.dat x)).set k (.dat y), b, _, ?_, ht, ?_⟩
  · simp only [List.mem_cons, List.not_mem_nil, or_false, not_or]
    exact ⟨fun z => by subst z; exact hj _ ds hi, fun z => by subst z; exact hk _ ds hi⟩
  · obtain ⟨a, xs, e1, e2, e3, v1, r1, e4, v2, r2, e5, e6, q⟩ := h1
    refine ⟨a, xs, e1, e2, e3, v1, r1, e4, v2, r2, e5, e6, h2 _ _ (fun i hi => ?_) ?_ q⟩
    · simp only [List.mem_cons, List.not_mem_nil, or_false, not_or] at hi
      show ((((σ.set k none).set j none).set j (some v1)).set k (some v2))[i]? = σ[i]?
      rw [List.getElem?_set_ne (Ne.symm hi.2), List.getElem?_set_ne (Ne.symm hi.1), List.getElem?_set_ne (Ne.symm hi.1), List.getElem?_set_ne (Ne.symm hi.2)]
    · show ((((((σ.set k none).set j none).set j (some v1)).set k (some v2)).set k none).set j none) = (σ.set k none).set j none
      rw [List.set_set, List.set_set, List.set_comm _ _ hjk, List.set_set, List.set_set]
  · have e1 : ((wipeS ρ [j, k]).set j (.dat x)).set k (.dat y) = (ρ.set j (.dat x)).set k (.dat y) := by
      show ((((ρ.set k .no).set j .no).set j (.dat x)).set k (.dat y)) = _
      rw [List.set_set, List.set_comm _ _ hjk, List.set_comm _ _ (Ne.symm hjk), List.set_comm _ _ (Ne.symm hjk), List.set_set]
    rw [← e1]
    exact eg_tup2
  · cases b with
    | true => exact .inr ⟨rfl, e, _, rfl, h1 rfl, own⟩
    | false => exact .inl ⟨rfl, rfl, own⟩
theorem lc2m (hjk : j ≠ k) (hj : ∀ qa ds, ρ[j]? ≠ some (.own qa ds)) (hk : ∀ qa ds, ρ[k]? ≠ some (.own qa ds)) (h1 : EE T te ((ρ.set j (.dat x)).set k (.dat y)) e ((ρ.set j (.dat x)).set k (.dat y))) :
    LcT T (gTup K 2 (gCons (gName j) (gCons (gName k) gNil))) tYes te [j, k] (.tuple [x, y]) ρ [e] ρ := lc2 (b := true) hjk hj hk et_yes fun _ => h1
end
/-- turns over a list of things, the names as they were -/
theorem lcr_filter {α : Type} {P : PyData → List Sl → List PyData → List Sl → Prop} {ρ : List Sl} (enc : α → PyData) (f : α → Bool) (v : α → PyData) : ∀ (xs : List α), (∀ x ∈ xs, P (enc x) ρ (if f x then [v x] else []) ρ) → LcR P (xs.map enc) ρ ((xs.filter f).map v) ρ
  | [], _ => .nil
  | x :: xs, h => by
    have r := lcr_filter enc f v xs fun y hy => h y (List.mem_cons_of_mem _ hy)
    have e : ((x :: xs).filter f).map v = (if f x then [v x] else []) ++ (xs.filter f).map v := by
      rw [List.filter_cons]
      cases f x <;> simp
    rw [e]
    exact .cons (h x List.mem_cons_self) r
theorem lcr_map {α : Type} {P : PyData → List Sl → List PyData → List Sl → Prop} {ρ : List Sl} (enc v : α → PyData) : ∀ (xs : List α), (∀ x ∈ xs, P (enc x) ρ [v x] ρ) → LcR P (xs.map enc) ρ (xs.map v) ρ
  | [], _ => .nil
  | x :: xs, h => .cons (es := [v x]) (h x List.mem_cons_self) (lcr_map enc v xs fun y hy => h y (List.mem_cons_of_mem _ hy))

/-! ### promises -/
inductive Res where
  | ok (d : PyData)
  | ex (C : Addr)
/-- a def of data alone -/
def spP (R : List PyData → Res → Prop) : Sp := fun vs H Q E => ∃ B ds r, Ex B H ∧ (∀ p ps, B p ≠ some (.tbl ps)) ∧ DtAll B vs ds ∧ R ds r ∧
  (match r with
    | .ok d => ∀ v B' H', Grow B H B' H' → Dt B' v d → Q v H'
    | .ex C => ∀ B' H', Grow B H B' H' → E (.ref C) none H')
/-- how a body's end answers -/
def Answers : Res → Out → Prop
  | .ok d, .rt d' _ => d = d'
  | .ok d, .nx _ => d = .none
  | .ex C, .ex C' _ => C = C'
  | _, _ => False
def slots (n : Nat) (ds : List PyData) : List Sl := ds.map Sl.dat ++ List.replicate (n - ds.length) .no
theorem start_env {N : List Str} {vs : List V} {ds : List PyData} {B H : Hp} (hB : Ex B H) (hb : ∀ p ps, B p ≠ some (.tbl ps)) (q : DtAll B vs ds) : Env [] H (fun p => H p ≠ none ∧ B p = none) B H (L2.start N vs) (slots N.length ds) where
  fh := Ex.refl _
  bh := hB
  wf := fun p hp => hp.1
  wb := fun p hp => hp.2
  tb := fun p hp => by cases hp
  ft := fun h => absurd rfl h
  bt := hb
  ln := by unfold L2.start slots; simp [q.length]
  sl := fun i s hs => by
    unfold slots at hs
    unfold L2.start
    by_cases hi : i < ds.length
    · rw [List.getElem?_append_left (by simpa using hi)] at hs
      rw [List.getElem?_append_left (by simpa [q.length] using hi)]
      rw [List.getElem?_map] at hs ⊢
      cases e : ds[i]? with
      | none => rw [e] at hs; cases hs
      | some d =>
        rw [e] at hs
        cases hs
        obtain ⟨v, h1, h2⟩ := q.get e
        exact ⟨some v, by rw [h1]; rfl, v, rfl, h2⟩
    · rw [List.getElem?_append_right (by simpa using hi)] at hs
      rw [List.getElem?_append_right (by simpa [q.length] using hi)]
      rw [List.getElem?_replicate] at hs ⊢
      simp only [List.length_map, q.length] at hs ⊢
      split at hs
      · rename_i h
        cases hs
        exact ⟨none, by rw [if_pos h], trivial⟩
      · cases hs
  ne := fun i j p q1 q2 es fs hij hi => by
    unfold slots at hi
    by_cases hl : i < ds.length
    · rw [List.getElem?_append_left (by simpa using hl), List.getElem?_map] at hi
      cases e : ds[i]? with
      | none => rw [e] at hi; cases hi
      | some d => rw [e] at hi; cases hi
    · rw [List.getElem?_append_right (by simpa using hl), List.getElem?_replicate] at hi
      split at hi <;> cases hi
theorem end_grow {B H B' H' : Hp} {σ : Sigma} {ρ : List Sl} (e : Ex B B') (E : Env [] H (fun p => H p ≠ none ∧ B p = none) B' H' σ ρ) : Grow B H B' H' :=
  ⟨e, E.bh, E.fh, fun p h1 h2 => E.wb p ⟨h2, h1⟩, fun _ => E.bt⟩
section
variable {P : Program} {w : World} {K : PySem.W.Frag} {mg : Str → Option Value} {base : Heap}
/-- a def that may raise, its exceptions of no context -/
theorem _root_.L2.Fun.okN {x qual : Str} {st : Stmt} {f : Addr} {fd : FuncData} {N ps : List Str} {k : Nat} {sp : Sp} (F : Fun K x qual st f fd) (S : FnScope N ps (defScope st)) (len : ∀ vs H Q E, sp vs H Q E → vs.length = ps.length)
    (hbody : ∀ (cdv : Value) (A : Around) (outer : List PySem.Env) (s : Shared) (H : Hp) (vs : List V) (Q : VK) (E : XK), Room k (A.deeper (envOfC qual (defScope st) s.heap.objs.size f cdv)) → sp vs H Q E →
      ∃ t, PSs (cxOf (L2N.CX P w) P w K mg base N qual (defScope st) f cdv A outer s H E) (defBody st) t ∧ t { nx := fun _ H' => Q .non H', rt := Q } (L2.start N vs) H) : FnOk P w K mg base (L2N.CX P w) (k + 1) f fd ps sp := by
  obtain ⟨oc, od, kV, doc, pm, an, cdv, ct, osl, e, lk, hcd⟩ := F.ex
  subst e
  exact fn_of lk hcd S len fun A outer s H vs Q E hr h => hbody cdv A outer s H vs Q E hr h
theorem passN {X : Cx} : Passes (L2N.CX X.prog X.w) X E0 := fun pins σ H s e s' I h => by
  obtain ⟨_, _, _, _, _, _, _, _, _, _, _, _, z⟩ := h
  exact z.elim
theorem takesN {X : Cx} {E : XK} (hs : X.stack = X.env :: X.outer) (hf : X.env.frame = some X.env.locals) (hex : X.ex = []) {E₁ : Value → Shared → Prop}
    (hx : X.xe = fun e s' => wpAny (model X.prog X.w) X.A (leaving X.env e) (fun _ s'' => L2N.CX X.prog X.w X.outer X.H_0 X.s_0 E e s'') E₁ s') : L2N.Takes X (fun cls d _ H => E cls d H) := L2N.takes_of hs hf hex hx
/-- THE RULE for a def of data -/
theorem fnP {x qual : Str} {st : Stmt} {f : Addr} {fd : FuncData} {N ps : List Str} {k : Nat} {R : List PyData → Res → Prop} (F : Fun K x qual st f fd) (S : FnScope N ps (defScope st)) (hl : ∀ ds r, R ds r → ds.length = ps.length)
    (hb : ∀ (cdv : Value) (A : Around) (outer : List PySem.Env) (s : Shared) (H : Hp) (E : XK), Room k (A.deeper (envOfC qual (defScope st) s.heap.objs.size f cdv)) →
      ∃ t, PSs (cxOf (L2N.CX P w) P w K mg base N qual (defScope st) f cdv A outer s H E) (defBody st) t ∧ ∀ ds r, R ds r → ∃ o, SS [] E t (slots N.length ds) o ∧ Answers r o) :
    FnOk P w K mg base (L2N.CX P w) (k + 1) f fd ps (spP R) := by
  refine F.okN S (fun vs H Q E h => ?_) (fun cdv A outer s H vs Q E hr h => ?_)
  · obtain ⟨B, ds, r, _, _, q, hR, _⟩ := h
    rw [q.length]; exact hl ds r hR
  · obtain ⟨t, ht, hs⟩ := hb cdv A outer s H E hr
    refine ⟨t, ht, ?_⟩
    obtain ⟨B, ds, r, hB, hbt, q, hR, k⟩ := h
    obtain ⟨o, ho, ha⟩ := hs ds r hR
    refine ho H _ _ B H _ (start_env hB hbt q) ?_
    cases r with
    | ok d =>
      cases o with
      | rt d' ρ' =>
        have e : d = d' := ha
        subst e
        exact fun v σ' B' H' e E' q' => k v B' H' (end_grow e E') q'
      | nx ρ' =>
        have e : d = .none := ha
        subst e
        exact fun σ' B' H' e E' => k .non B' H' (end_grow e E') .non
      | ex C ρ' => exact ha.elim
    | ex C =>
      cases o with
      | rt d' ρ' => exact ha.elim
      | nx ρ' => exact ha.elim
      | ex C' ρ' =>
        have e : C = C' := ha
        subst e
        exact fun σ' B' H' e E' => k B' H' (end_grow e E')
end
section
variable {T : TL} {X E : XK} {ρ ρ1 : List Sl} {d : PyData} {ds : List PyData} {ta : TA} {R : List PyData → Res → Prop} {C : Addr}
/-- a call that gives a datum -/
theorem ee_call (h : EA T ta ρ ds ρ1) (hR : R ds (.ok d)) : EE T (tCall (spP R) [] E ta) ρ d ρ1 := fun F W B H σ Q Ev k =>
  h F W B H σ _ Ev fun vs B1 H1 e1 E1 q1 => by
    show spP R (vs ++ []) H1 Q E
    rw [List.append_nil]
    exact ⟨B1, ds, .ok d, E1.bh, E1.bt, q1, hR, fun v B' H' g q => k v B' H' (e1.trans g.bb) (E1.grow g) q⟩
/-- a statement that is a call that raises -/
theorem ss_callX (h : EA T ta ρ ds ρ1) (hR : R ds (.ex C)) : SS T X (tDrop (tCall (spP R) [] X ta)) ρ (.ex C ρ1) := fun F W D B H σ Ev k =>
  h F W B H σ _ Ev fun vs B1 H1 e1 E1 q1 => by
    show spP R (vs ++ []) H1 _ X
    rw [List.append_nil]
    exact ⟨B1, ds, .ex C, E1.bh, E1.bt, q1, hR, fun B' H' g => k σ B' H' (e1.trans g.bb) (E1.grow g)⟩
/-- raise C('..') -/
theorem ss_raise {t : TS} (ht : ∀ D σ H, X (.ref C) none H → t D σ H) : SS T X t ρ (.ex C ρ) := fun F W D B H σ Ev k => ht D σ H (k σ B H (Ex.refl _) Ev)
end
end DL
namespace DL
open PySem L2
theorem lcr_data {P : PyData → List Sl → List PyData → List Sl → Prop} {ρ : List Sl} (v : PyData → PyData) : ∀ (xs : List PyData), (∀ x ∈ xs, P x ρ [v x] ρ) → LcR P xs ρ (xs.map v) ρ
  | [], _ => .nil
  | x :: xs, h => .cons (es := [v x]) (h x List.mem_cons_self) (lcr_data v xs fun y hy => h y (List.mem_cons_of_mem _ hy))
theorem lcr_bools {α : Type} {P : PyData → List Sl → List PyData → List Sl → Prop} {ρ : List Sl} (enc : α → PyData) (f : α → Bool) : ∀ (xs : List α), (∀ x ∈ xs, P (enc x) ρ [.bool (f x)] ρ) → LcR P (xs.map enc) ρ ((xs.map f).map PyData.bool) ρ
  | [], _ => .nil
  | x :: xs, h => .cons (es := [.bool (f x)]) (h x List.mem_cons_self) (lcr_bools enc f xs fun y hy => h y (List.mem_cons_of_mem _ hy))
theorem lcr_ints {α : Type} {P : PyData → List Sl → List PyData → List Sl → Prop} {ρ : List Sl} (enc : α → PyData) (f : α → Int) : ∀ (xs : List α), (∀ x ∈ xs, P (enc x) ρ [.int (f x)] ρ) → LcR P (xs.map enc) ρ ((xs.map f).map PyData.int) ρ
  | [], _ => .nil
  | x :: xs, h => .cons (es := [.int (f x)]) (h x List.mem_cons_self) (lcr_ints enc f xs fun y hy => h y (List.mem_cons_of_mem _ hy))
theorem lcr_dbools {P : PyData → List Sl → List PyData → List Sl → Prop} {ρ : List Sl} (f : PyData → Bool) : ∀ (xs : List PyData), (∀ x ∈ xs, P x ρ [.bool (f x)] ρ) → LcR P xs ρ ((xs.map f).map PyData.bool) ρ
  | [], _ => .nil
  | x :: xs, h => .cons (es := [.bool (f x)]) (h x List.mem_cons_self) (lcr_dbools f xs fun y hy => h y (List.mem_cons_of_mem _ hy))
end DL
namespace DL
open PySem L2 PyProof.Rows
open Evl (Ex)

/-! ### shapes and equality of data -/
mutual
/-- no bool, no dict, texts that are laid -/
def pl : PyData → Bool
  | .none => true
  | .int _ => true
  | .str x => PyData.strOk x
  | .list xs => plAll xs
  | .tuple xs => plAll xs
  | .bool _ => false
  | .dict _ => false
def plAll : List PyData → Bool
  | [] => true
  | x :: xs => pl x && plAll xs
end
mutual
theorem eqv_iff : ∀ (d e : PyData), pl d = true → pl e = true → (PyData.eqv d e = true ↔ d = e)
  | .none, e, _, h2 => by cases e <;> simp_all [PyData.eqv, pl]
  | .int i, e, _, h2 => by cases e <;> simp_all [PyData.eqv, pl]
  | .str x, e, _, h2 => by cases e <;> simp_all [PyData.eqv, pl]
  | .list xs, e, h1, h2 => by
    cases e with
    | list ys => simp only [PyData.eqv, PyData.list.injEq]; exact eqvAll_iff xs ys (by simpa [pl] using h1) (by simpa [pl] using h2)
    | _ => simp_all [PyData.eqv, pl]
  | .tuple xs, e, h1, h2 => by
    cases e with
    | tuple ys => simp only [PyData.eqv, PyData.tuple.injEq]; exact eqvAll_iff xs ys (by simpa [pl] using h1) (by simpa [pl] using h2)
    | _ => simp_all [PyData.eqv, pl]
  | .bool b, e, h1, _ => by simp [pl] at h1
  | .dict b, e, h1, _ => by simp [pl] at h1
theorem eqvAll_iff : ∀ (xs ys : List PyData), plAll xs = true → plAll ys = true → (PyData.eqvAll xs ys = true ↔ xs = ys)
  | [], [], _, _ => by simp [PyData.eqvAll]
  | [], y :: ys, _, _ => by simp [PyData.eqvAll]
  | x :: xs, [], _, _ => by simp [PyData.eqvAll]
  | x :: xs, y :: ys, h1, h2 => by
    simp only [plAll, Bool.and_eq_true] at h1 h2
    simp only [PyData.eqvAll, Bool.and_eq_true, List.cons.injEq]
    rw [eqv_iff x y h1.1 h2.1, eqvAll_iff xs ys h1.2 h2.2]
end
theorem eqv_ne {d e : PyData} (h1 : pl d = true) (h2 : pl e = true) (h : d ≠ e) : PyData.eqv d e = false := by
  cases q : PyData.eqv d e with
  | false => rfl
  | true => exact absurd ((eqv_iff d e h1 h2).mp q) h
theorem eqv_self {d : PyData} (h1 : pl d = true) : PyData.eqv d d = true := (eqv_iff d d h1 h1).mpr rfl
theorem eqv_dec {α : Type} [DecidableEq α] {f : α → PyData} (hf : ∀ a, pl (f a) = true) (inj : ∀ a b, f a = f b → a = b) (a b : α) : PyData.eqv (f a) (f b) = decide (a = b) := by
  by_cases h : a = b
  · subst h; rw [eqv_self (hf a)]; simp
  · rw [eqv_ne (hf a) (hf b) (fun z => h (inj a b z))]; simp [h]
/-- encodings -/
abbrev eP (p : Int × Int) : PyData := .tuple [.int p.1, .int p.2]
abbrev eT (ns : List Int) : PyData := .tuple (ns.map PyData.int)
abbrev eL (ns : List Int) : PyData := .list (ns.map PyData.int)
abbrev ePs (ps : List (Int × Int)) : PyData := .tuple (ps.map eP)
abbrev eW (w : Int × List (Int × Int)) : PyData := .tuple [.int w.1, ePs w.2]
theorem plAll_map {α : Type} {f : α → PyData} : ∀ (xs : List α), (∀ x ∈ xs, pl (f x) = true) → plAll (xs.map f) = true
  | [], _ => rfl
  | x :: xs, h => by
    show (pl (f x) && plAll (xs.map f)) = true
    rw [h x List.mem_cons_self, plAll_map xs fun y hy => h y (List.mem_cons_of_mem _ hy)]
    rfl
theorem pl_int (i : Int) : pl (.int i) = true := by simp [pl]
theorem pl_eT (ns : List Int) : pl (eT ns) = true := by show pl (.tuple _) = true; unfold pl; exact plAll_map ns fun _ _ => pl_int _
theorem pl_eL (ns : List Int) : pl (eL ns) = true := by show pl (.list _) = true; unfold pl; exact plAll_map ns fun _ _ => pl_int _
theorem pl_eP (p : Int × Int) : pl (eP p) = true := by simp [pl, plAll]
theorem pl_ePs (ps : List (Int × Int)) : pl (ePs ps) = true := by show pl (.tuple _) = true; unfold pl; exact plAll_map ps fun _ _ => pl_eP _
theorem pl_eW (w : Int × List (Int × Int)) : pl (eW w) = true := by
  have h := pl_ePs w.2
  unfold ePs at h
  simp only [eW, pl, plAll, ePs] at h ⊢
  simp [h]
mutual
theorem pl_can : ∀ d : PyData, pl d = true → PyData.canLay0 d = true
  | .none, _ => by simp [PyData.canLay0]
  | .int _, _ => by simp [PyData.canLay0]
  | .str x, h => by simpa [PyData.canLay0, pl] using h
  | .list xs, h => by simp only [PyData.canLay0]; exact plAll_can xs (by simpa [pl] using h)
  | .tuple xs, h => by simp only [PyData.canLay0]; exact plAll_can xs (by simpa [pl] using h)
  | .bool _, _ => by simp [PyData.canLay0]
  | .dict _, h => by simp [pl] at h
theorem plAll_can : ∀ ds : List PyData, plAll ds = true → PyData.canLayAll0 ds = true
  | [], _ => by simp [PyData.canLayAll0]
  | d :: ds, h => by
    simp only [plAll, Bool.and_eq_true] at h
    simp only [PyData.canLayAll0, Bool.and_eq_true]
    exact ⟨pl_can d h.1, plAll_can ds h.2⟩
end
theorem shaped_of {d : PyData} (h : pl d = true) (hd : d.depth ≤ 64) : SeqAt.shaped d = true := by
  unfold SeqAt.shaped
  rw [pl_can d h, decide_eq_true hd]
  rfl
theorem depthAll_map {α : Type} {f : α → PyData} {n : Nat} : ∀ (xs : List α), (∀ x ∈ xs, (f x).depth ≤ n) → PyData.depthAll (xs.map f) ≤ n
  | [], _ => by simp [PyData.depthAll]
  | x :: xs, h => by
    have h1 := h x List.mem_cons_self
    have h2 := depthAll_map xs fun y hy => h y (List.mem_cons_of_mem _ hy)
    simp only [List.map_cons, PyData.depthAll]
    omega
theorem dp_eT (ns : List Int) : (eT ns).depth ≤ 1 := by
  have := depthAll_map (f := PyData.int) (n := 0) ns (fun _ _ => by simp [PyData.depth])
  simp only [eT, PyData.depth]; omega
theorem dp_eL (ns : List Int) : (eL ns).depth ≤ 1 := by
  have := depthAll_map (f := PyData.int) (n := 0) ns (fun _ _ => by simp [PyData.depth])
  simp only [eL, PyData.depth]; omega
theorem dp_eP (p : Int × Int) : (eP p).depth ≤ 1 := by simp [PyData.depth, PyData.depthAll]
theorem dp_ePs (ps : List (Int × Int)) : (ePs ps).depth ≤ 2 := by
  have := depthAll_map (f := eP) (n := 1) ps (fun p _ => dp_eP p)
  simp only [ePs, PyData.depth]; omega
theorem sh_eT (ns : List Int) : SeqAt.shaped (eT ns) = true := shaped_of (pl_eT ns) (Nat.le_trans (dp_eT ns) (by decide))
theorem sh_eL (ns : List Int) : SeqAt.shaped (eL ns) = true := shaped_of (pl_eL ns) (Nat.le_trans (dp_eL ns) (by decide))
theorem sh_eP (p : Int × Int) : SeqAt.shaped (eP p) = true := shaped_of (pl_eP p) (Nat.le_trans (dp_eP p) (by decide))
theorem sh_ePs (ps : List (Int × Int)) : SeqAt.shaped (ePs ps) = true := shaped_of (pl_ePs ps) (Nat.le_trans (dp_ePs ps) (by decide))
theorem map_inj {α β : Type} {f : α → β} (inj : ∀ a b, f a = f b → a = b) : ∀ {xs ys : List α}, xs.map f = ys.map f → xs = ys
  | [], [], _ => rfl
  | [], _ :: _, h => by cases h
  | _ :: _, [], h => by cases h
  | x :: xs, y :: ys, h => by
    simp only [List.map_cons, List.cons.injEq] at h
    rw [inj x y h.1, map_inj inj h.2]
theorem int_inj (a b : Int) (h : PyData.int a = PyData.int b) : a = b := by cases h; rfl
theorem eT_inj {a b : List Int} (h : eT a = eT b) : a = b := map_inj int_inj (by simpa [eT] using h)
theorem eL_inj {a b : List Int} (h : eL a = eL b) : a = b := map_inj int_inj (by simpa [eL] using h)
theorem eP_inj (a b : Int × Int) (h : eP a = eP b) : a = b := by
  obtain ⟨a1, a2⟩ := a
  obtain ⟨b1, b2⟩ := b
  simp only [eP, PyData.tuple.injEq, List.cons.injEq, PyData.int.injEq, and_true] at h
  rw [h.1, h.2]
theorem ePs_inj {a b : List (Int × Int)} (h : ePs a = ePs b) : a = b := map_inj eP_inj (by simpa [ePs] using h)
theorem eqv_eT (a b : List Int) : PyData.eqv (eT a) (eT b) = decide (a = b) := eqv_dec (f := eT) pl_eT (fun _ _ => eT_inj) a b
theorem eqv_eL (a b : List Int) : PyData.eqv (eL a) (eL b) = decide (a = b) := eqv_dec (f := eL) pl_eL (fun _ _ => eL_inj) a b
theorem eqv_eP (a b : Int × Int) : PyData.eqv (eP a) (eP b) = decide (a = b) := eqv_dec (f := eP) pl_eP eP_inj a b
theorem eqv_ePs (a b : List (Int × Int)) : PyData.eqv (ePs a) (ePs b) = decide (a = b) := eqv_dec (f := ePs) pl_ePs (fun _ _ => ePs_inj) a b

/-! ### isinstance -/
def tyName : PyData → String
  | .none => "NoneType"
  | .bool _ => "bool"
  | .int _ => "int"
  | .str _ => "str"
  | .list _ => "list"
  | .tuple _ => "tuple"
  | .dict _ => "dict"
theorem tyX {K : PySem.W.Frag} {B H : Hp} {v : V} {d : PyData} (e : Ex B H) (h : Dt B v d) : TyX K H v (.type (tyName d)) := by
  cases h with
  | non => exact .base .non
  | bl b => exact .base (.bl b)
  | int i => exact .base (.int i)
  | str x => exact .base (.str x)
  | lst h _ => exact .base (.lst (e _ _ h))
  | tup h _ => exact .base (.tup (e _ _ h))
section
variable {T : TL} {te ta tb tc : TE} {ρ ρ1 ρ2 : List Sl} {d x y z : PyData} {ds es : List PyData} {K : PySem.W.Frag} {i j : Int}
theorem ee_isi {n : String} {b : Bool} (h : EE T te ρ d ρ1) (hk : kitB (tyName d) n = some b) : EE T (tCB (rIsi K) (tCons te (tCons (tC (.ty n)) tNil))) ρ (.bool b) ρ1 := fun F W B H σ Q E k =>
  h F W B H σ _ E fun v B1 H1 e1 E1 q1 => ⟨v, .ty n, .type (tyName d), .type n, b, rfl, .ty n, tyX E1.bh q1, kit_ty hk, k _ B1 H1 e1 E1 (.bl b)⟩
def isInt : PyData → Bool
  | .int _ => true
  | .bool _ => true
  | _ => false
def isBool : PyData → Bool
  | .bool _ => true
  | _ => false
def isTup : PyData → Bool
  | .tuple _ => true
  | _ => false
def isStr : PyData → Bool
  | .str _ => true
  | _ => false
theorem kit_int : ∀ (d : PyData), kitB (tyName d) "int" = some (isInt d)
  | .none => (by decide +kernel : kitB "NoneType" "int" = some false)
  | .bool _ => (by decide +kernel : kitB "bool" "int" = some true)
  | .int _ => (by decide +kernel : kitB "int" "int" = some true)
  | .str _ => (by decide +kernel : kitB "str" "int" = some false)
  | .list _ => (by decide +kernel : kitB "list" "int" = some false)
  | .tuple _ => (by decide +kernel : kitB "tuple" "int" = some false)
  | .dict _ => (by decide +kernel : kitB "dict" "int" = some false)
theorem kit_bool : ∀ (d : PyData), kitB (tyName d) "bool" = some (isBool d)
  | .none => (by decide +kernel : kitB "NoneType" "bool" = some false)
  | .bool _ => (by decide +kernel : kitB "bool" "bool" = some true)
  | .int _ => (by decide +kernel : kitB "int" "bool" = some false)
  | .str _ => (by decide +kernel : kitB "str" "bool" = some false)
  | .list _ => (by decide +kernel : kitB "list" "bool" = some false)
  | .tuple _ => (by decide +kernel : kitB "tuple" "bool" = some false)
  | .dict _ => (by decide +kernel : kitB "dict" "bool" = some false)
theorem kit_tup : ∀ (d : PyData), kitB (tyName d) "tuple" = some (isTup d)
  | .none => (by decide +kernel : kitB "NoneType" "tuple" = some false)
  | .bool _ => (by decide +kernel : kitB "bool" "tuple" = some false)
  | .int _ => (by decide +kernel : kitB "int" "tuple" = some false)
  | .str _ => (by decide +kernel : kitB "str" "tuple" = some false)
  | .list _ => (by decide +kernel : kitB "list" "tuple" = some false)
  | .tuple _ => (by decide +kernel : kitB "tuple" "tuple" = some true)
  | .dict _ => (by decide +kernel : kitB "dict" "tuple" = some false)
theorem kit_str : ∀ (d : PyData), kitB (tyName d) "str" = some (isStr d)
  | .none => (by decide +kernel : kitB "NoneType" "str" = some false)
  | .bool _ => (by decide +kernel : kitB "bool" "str" = some false)
  | .int _ => (by decide +kernel : kitB "int" "str" = some false)
  | .str _ => (by decide +kernel : kitB "str" "str" = some true)
  | .list _ => (by decide +kernel : kitB "list" "str" = some false)
  | .tuple _ => (by decide +kernel : kitB "tuple" "str" = some false)
  | .dict _ => (by decide +kernel : kitB "dict" "str" = some false)
theorem ee_isInt (h : EE T te ρ d ρ1) : EE T (tCB (rIsi K) (tCons te (tCons (tC (.ty "int")) tNil))) ρ (.bool (isInt d)) ρ1 := ee_isi h (kit_int d)
theorem ee_isBool (h : EE T te ρ d ρ1) : EE T (tCB (rIsi K) (tCons te (tCons (tC (.ty "bool")) tNil))) ρ (.bool (isBool d)) ρ1 := ee_isi h (kit_bool d)
theorem ee_isTup (h : EE T te ρ d ρ1) : EE T (tCB (rIsi K) (tCons te (tCons (tC (.ty "tuple")) tNil))) ρ (.bool (isTup d)) ρ1 := ee_isi h (kit_tup d)
theorem ee_isStr (h : EE T te ρ d ρ1) : EE T (tCB (rIsi K) (tCons te (tCons (tC (.ty "str")) tNil))) ρ (.bool (isStr d)) ρ1 := ee_isi h (kit_str d)

/-! ### built-in calls -/
theorem dt1 {B : Hp} {vs : List V} (h : DtAll B vs [x]) : ∃ v, vs = [v] ∧ Dt B v x := by cases h with | cons h1 h2 => cases h2; exact ⟨_, rfl, h1⟩
theorem dt2 {B : Hp} {vs : List V} (h : DtAll B vs [x, y]) : ∃ v u, vs = [v, u] ∧ Dt B v x ∧ Dt B u y := by
  cases h with
  | cons h1 h2 => obtain ⟨u, rfl, h3⟩ := dt1 h2; exact ⟨_, u, rfl, h1, h3⟩
abbrev rLenQ (K : PySem.W.Frag) : List V → Hp → VK → Prop := fun xs H Q => ∃ p ys, xs = [.ref p] ∧ (SqL K H p ys ∨ SqT K H p ys) ∧ Q (.int ys.length) H
theorem rb_lenT : RB (rLenQ K) [.tuple es] (.int es.length) := fun B H vs Q e bt q k => by
  obtain ⟨v, rfl, q0⟩ := dt1 q
  obtain ⟨a, xs, rfl, f2, q⟩ := q0.inv_tup
  exact ⟨a, xs, rfl, .inr (SqT.of (e _ _ f2)), by rw [q.length]; exact k _ B H (Grow.refl e) (.int _)⟩
theorem rb_lenL : RB (rLenQ K) [.list es] (.int es.length) := fun B H vs Q e bt q k => by
  obtain ⟨v, rfl, q0⟩ := dt1 q
  obtain ⟨a, xs, rfl, f2, q⟩ := q0.inv_lst
  exact ⟨a, xs, rfl, .inl (SqL.of (e _ _ f2)), by rw [q.length]; exact k _ B H (Grow.refl e) (.int _)⟩
theorem rb_all {bs : List Bool} : RB (rAll K) [.list (bs.map PyData.bool)] (.bool (bs.all id)) := fun B H vs Q e bt q k => by
  obtain ⟨v, rfl, q0⟩ := dt1 q
  obtain ⟨a, xs, rfl, f2, q⟩ := q0.inv_lst
  have ex := q.bools
  subst ex
  exact ⟨a, bs, rfl, SqL.of (e _ _ f2), k _ B H (Grow.refl e) (.bl _)⟩
abbrev rTupOf (K : PySem.W.Frag) : List V → Hp → VK → Prop := fun xs H Q => ∃ p ys, xs = [.ref p] ∧ ((SqL K H p ys ∧ ∀ l, H l = none → Q (.ref l) (upd H l (.tup ys))) ∨ (SqT K H p ys ∧ Q (.ref p) H))
theorem rb_tupL : RB (rTupOf K) [.list es] (.tuple es) := fun B H vs Q e bt q k => by
  obtain ⟨v, rfl, q0⟩ := dt1 q
  obtain ⟨a, xs, rfl, f2, q⟩ := q0.inv_lst
  refine ⟨a, xs, rfl, .inl ⟨SqL.of (e _ _ f2), fun l hl => ?_⟩⟩
  have g := Grow.new (o := .tup xs) e hl (fun ps z => by cases z)
  exact k _ _ _ g (.tup upd_same (q.mono g.bb))
theorem rb_tupT : RB (rTupOf K) [.tuple es] (.tuple es) := fun B H vs Q e bt q k => by
  obtain ⟨v, rfl, q0⟩ := dt1 q
  obtain ⟨a, xs, f1, f2, q'⟩ := q0.inv_tup
  subst f1
  exact ⟨a, xs, rfl, .inr ⟨SqT.of (e _ _ f2), k _ B H (Grow.refl e) q0⟩⟩
abbrev rListOf (K : PySem.W.Frag) : List V → Hp → VK → Prop := fun xs H Q => ∃ p ys, xs = [.ref p] ∧ (SqL K H p ys ∨ SqT K H p ys) ∧ ∀ l, H l = none → Q (.ref l) (upd H l (.lst ys))
theorem rbl_listL : RBL (rListOf K) [.list es] es := fun B H vs Q e q k => by
  obtain ⟨v, rfl, q0⟩ := dt1 q
  obtain ⟨a, xs, rfl, f2, q⟩ := q0.inv_lst
  exact ⟨a, xs, rfl, .inl (SqL.of (e _ _ f2)), fun l hl => k l xs _ hl (Ex.new hl) upd_same q⟩
theorem rbl_listT : RBL (rListOf K) [.tuple es] es := fun B H vs Q e q k => by
  obtain ⟨v, rfl, q0⟩ := dt1 q
  obtain ⟨a, xs, rfl, f2, q⟩ := q0.inv_tup
  exact ⟨a, xs, rfl, .inr (SqT.of (e _ _ f2)), fun l hl => k l xs _ hl (Ex.new hl) upd_same q⟩
def iabs (i : Int) : Int := if i < 0 then -i else i
theorem rb_abs : RB (fun xs H Q => ∃ i, xs = [V.int i] ∧ Q (.int (if i < 0 then -i else i)) H) [.int i] (.int (iabs i)) := fun B H vs Q e bt q k => by
  obtain ⟨v, rfl, q0⟩ := dt1 q
  rw [q0.inv_int]
  exact ⟨i, rfl, k _ B H (Grow.refl e) (.int _)⟩
theorem rb_max2 : RB (fun xs H Q => ∃ i j, xs = [V.int i, V.int j] ∧ Q (.int (if j > i then j else i)) H) [.int i, .int j] (.int (max i j)) := fun B H vs Q e bt q k => by
  obtain ⟨v, u, rfl, q1, q2⟩ := dt2 q
  rw [q1.inv_int, q2.inv_int]
  refine ⟨i, j, rfl, ?_⟩
  have : (if j > i then j else i) = max i j := by by_cases h : j > i <;> simp only [h, if_true, if_false] <;> omega
  rw [this]
  exact k _ B H (Grow.refl e) (.int _)
theorem rb_min2 : RB (fun xs H Q => ∃ i j, xs = [V.int i, V.int j] ∧ Q (.int (if j < i then j else i)) H) [.int i, .int j] (.int (min i j)) := fun B H vs Q e bt q k => by
  obtain ⟨v, u, rfl, q1, q2⟩ := dt2 q
  rw [q1.inv_int, q2.inv_int]
  refine ⟨i, j, rfl, ?_⟩
  have : (if j < i then j else i) = min i j := by by_cases h : j < i <;> simp only [h, if_true, if_false] <;> omega
  rw [this]
  exact k _ B H (Grow.refl e) (.int _)

/-! ### sorted -/
def insI (x : Int) : List Int → List Int
  | [] => [x]
  | y :: ys => if x ≤ y then x :: y :: ys else y :: insI x ys
def sortI : List Int → List Int
  | [] => []
  | x :: xs => insI x (sortI xs)
theorem insI_perm (x : Int) : ∀ ys, (insI x ys).Perm (x :: ys)
  | [] => List.Perm.refl _
  | y :: ys => by
    unfold insI
    split
    · exact List.Perm.refl _
    · exact ((insI_perm x ys).cons y).trans (List.Perm.swap x y ys)
theorem sortI_perm : ∀ xs, (sortI xs).Perm xs
  | [] => List.Perm.refl _
  | x :: xs => (insI_perm x (sortI xs)).trans ((sortI_perm xs).cons x)
theorem insI_sorted (x : Int) : ∀ ys, ys.Pairwise (· ≤ ·) → (insI x ys).Pairwise (· ≤ ·)
  | [], _ => by simp [insI]
  | y :: ys, h => by
    unfold insI
    have h' := List.pairwise_cons.mp h
    split
    · rename_i hxy
      refine List.pairwise_cons.mpr ⟨fun z hz => ?_, h⟩
      rcases List.mem_cons.mp hz with rfl | hz
      · exact hxy
      · exact Int.le_trans hxy (h'.1 z hz)
    · rename_i hxy
      refine List.pairwise_cons.mpr ⟨fun z hz => ?_, insI_sorted x ys h'.2⟩
      rcases List.mem_cons.mp ((insI_perm x ys).mem_iff.mp hz) with rfl | hz
      · omega
      · exact h'.1 z hz
theorem sortI_sorted : ∀ xs, (sortI xs).Pairwise (· ≤ ·)
  | [] => List.Pairwise.nil
  | x :: xs => insI_sorted x _ (sortI_sorted xs)
theorem sortI_is {xs ys : List Int} (h : ys.Perm xs) (hs : ys.Pairwise (· ≤ ·)) : ys = sortI xs := PySem.W.ksm_same (h.trans (sortI_perm xs).symm) hs (sortI_sorted xs)
theorem rbl_sorted {ns : List Int} : RBL (rSortedI K) [eL ns] ((sortI ns).map PyData.int) := fun B H vs Q e q k => by
  obtain ⟨v, rfl, q0⟩ := dt1 q
  obtain ⟨a, xs, rfl, f2, q⟩ := q0.inv_lst
  have ex := q.ints
  subst ex
  refine ⟨a, ns, rfl, SqL.of (e _ _ f2), fun ns' p h1 h2 hp => ?_⟩
  have := sortI_is h1 h2
  subst this
  exact k p _ _ hp (Ex.new hp) upd_same (DtAll.of_ints _)
end
end DL
namespace DL
open PySem L2 PyProof.Rows
open Evl (Ex)

/-! ### sets of ints: set(xs), len(s) -/
def dd : List Int → List Int
  | [] => []
  | x :: xs => if xs.contains x then dd xs else x :: dd xs
def dcount (ns : List Int) : Nat := (dd ns).length
theorem dd_mem : ∀ (ns : List Int) (k : Int), k ∈ dd ns ↔ k ∈ ns
  | [], k => by simp [dd]
  | x :: xs, k => by
    unfold dd
    split
    · rename_i h
      have hx : x ∈ xs := by simpa using h
      rw [dd_mem xs k]
      constructor
      · exact fun h => List.mem_cons_of_mem _ h
      · intro h
        rcases List.mem_cons.mp h with rfl | h
        · exact hx
        · exact h
    · rw [List.mem_cons, List.mem_cons, dd_mem xs k]
theorem dd_nodup : ∀ (ns : List Int), (dd ns).Nodup
  | [] => by simp [dd]
  | x :: xs => by
    unfold dd
    split
    · exact dd_nodup xs
    · rename_i h
      have hx : x ∉ xs := by simpa using h
      exact List.nodup_cons.mpr ⟨fun z => hx ((dd_mem xs x).mp z), dd_nodup xs⟩
theorem len_le_of_sub {α : Type} [DecidableEq α] : ∀ {l m : List α}, l.Nodup → (∀ x ∈ l, x ∈ m) → l.length ≤ m.length
  | [], _, _, _ => Nat.zero_le _
  | x :: l, m, hn, hs => by
    have hn' := List.nodup_cons.mp hn
    have hx : x ∈ m := hs x List.mem_cons_self
    have h := len_le_of_sub (l := l) (m := m.erase x) hn'.2 fun y hy => by
      have hy' := hs y (List.mem_cons_of_mem _ hy)
      have : y ≠ x := fun z => hn'.1 (by rw [← z]; exact hy)
      exact (List.mem_erase_of_ne this).mpr hy'
    rw [List.length_erase_of_mem hx] at h
    have : 0 < m.length := List.length_pos_of_mem hx
    simp only [List.length_cons]
    omega
theorem dcount_is {L ns : List Int} (h1 : L.Nodup) (h2 : ∀ k, k ∈ L ↔ k ∈ ns) : L.length = dcount ns :=
  Nat.le_antisymm (len_le_of_sub h1 fun x hx => (dd_mem ns x).mpr ((h2 x).mp hx)) (len_le_of_sub (dd_nodup ns) fun x hx => (h2 x).mpr ((dd_mem ns x).mp hx))
theorem dcount_le (ns : List Int) : dcount ns ≤ ns.length := len_le_of_sub (dd_nodup ns) fun x hx => (dd_mem ns x).mp hx
theorem dd_self : ∀ (ns : List Int), ns.Nodup → dd ns = ns
  | [], _ => rfl
  | x :: xs, h => by
    have h' := List.nodup_cons.mp h
    unfold dd
    rw [if_neg (by simpa using h'.1), dd_self xs h'.2]
theorem dd_full : ∀ (ns : List Int), (dd ns).length = ns.length → ns.Nodup
  | [], _ => List.nodup_nil
  | x :: xs, h => by
    have hl := dcount_le xs
    unfold dcount at hl
    by_cases hx : xs.contains x = true
    · have e : dd (x :: xs) = dd xs := by show (if xs.contains x then dd xs else x :: dd xs) = dd xs; rw [if_pos hx]
      rw [e, List.length_cons] at h
      omega
    · have e : dd (x :: xs) = x :: dd xs := by show (if xs.contains x then dd xs else x :: dd xs) = x :: dd xs; rw [if_neg hx]
      rw [e, List.length_cons, List.length_cons] at h
      exact List.nodup_cons.mpr ⟨by simpa using hx, dd_full xs (by omega)⟩
theorem dcount_full (ns : List Int) : (dcount ns = ns.length) ↔ ns.Nodup := ⟨dd_full ns, fun h => by unfold dcount; rw [dd_self ns h]⟩

theorem firstMet_nd (val : Nat → Int) : ∀ i, (PyProof.Rows.firstMet val i).Nodup
  | 0 => by rw [PyProof.Rows.firstMet_zero]; exact List.nodup_nil
  | i + 1 => by
    rw [PyProof.Rows.firstMet_succ]
    have ih := firstMet_nd val i
    show (if (PyProof.Rows.firstMet val i).any (· == val i) then PyProof.Rows.firstMet val i else PyProof.Rows.firstMet val i ++ [val i]).Nodup
    split
    · exact ih
    · rename_i h
      refine List.nodup_append.mpr ⟨ih, by simp, fun a ha b hb => ?_⟩
      rintro rfl
      have : a = val i := by simpa using hb
      subst this
      exact h (List.any_eq_true.mpr ⟨_, ha, by simp⟩)
theorem firstMet_in (ns : List Int) (k : Int) : k ∈ PyProof.Rows.firstMet (fun i => ns.getD i 0) ns.length ↔ k ∈ ns := by
  have h := PyProof.Rows.firstMet_any (fun i => ns.getD i 0) ns.length k
  have e : (List.range ns.length).map (fun i => ns.getD i 0) = ns := by
    refine List.ext_getElem? fun i => ?_
    rw [List.getElem?_map]
    by_cases hi : i < ns.length
    · rw [List.getElem?_range hi, List.getElem?_eq_getElem hi]
      simp [hi]
    · rw [List.getElem?_eq_none (by simpa using hi), List.getElem?_eq_none (by simpa using hi)]
      rfl
  rw [e] at h
  constructor
  · intro hk
    have : (PyProof.Rows.firstMet (fun i => ns.getD i 0) ns.length).any (· == k) = true := List.any_eq_true.mpr ⟨k, hk, by simp⟩
    rw [h] at this
    obtain ⟨y, hy, e⟩ := List.any_eq_true.mp this
    have : y = k := by simpa using e
    rw [← this]; exact hy
  · intro hk
    have : ns.any (· == k) = true := List.any_eq_true.mpr ⟨k, hk, by simp⟩
    rw [← h] at this
    obtain ⟨y, hy, e⟩ := List.any_eq_true.mp this
    have : y = k := by simpa using e
    rw [← this]; exact hy
def rSetI (K : PySem.W.Frag) : List V → Hp → VK → Prop := fun vs H Q => ∃ (a : Addr) (ns : List Int), vs = [V.ref a] ∧ (SqL K H a (ns.map V.int) ∨ SqT K H a (ns.map V.int)) ∧ ns.length ≤ 4000 ∧
  ∀ (p : Addr) (S : Int → Bool), H p = none → Q (.ref p) (upd H p (.set S (dcount ns)))
theorem ints_vals : ∀ {ns : List Int} {us : List Value}, Vals (ns.map V.int) us → PyProof.Rows.IntsAre us ns
  | [], _, .nil => .nil
  | n :: ns, _, .cons r t => by
    obtain ⟨k, rfl⟩ := r
    exact .cons n k (ints_vals t)
section
variable {X : Cx}
theorem cr_setI (hc : X.calm = true) : CallR X (.type "set") (rSetI X.K) := by
  intro pins s σ H vs us Q I r h
  obtain ⟨a, ns, rfl, hs, hl, q⟩ := h
  rw [Vals.ref1 r]
  rcases hs with hs | hs
  · obtain ⟨its, rv, pl, hz⟩ := I.list hs
    have hlen : its.toArray.size = ns.length := by rw [List.size_toArray, ← rv.length, List.length_map]
    refine call_set_list (I.ok.hd hc) pl.isList (by simpa using ints_vals rv) (by rw [hlen]; unfold scanBound; omega) fun h' tk hS hk => ?_
    rw [hlen] at hS
    have e : (PyProof.Rows.firstMet (fun i => ns.getD i 0) ns.length).length = dcount ns := dcount_is (firstMet_nd _ _) (firstMet_in ns)
    rw [e] at hS
    exact ⟨.ref _, upd H s.heap.objs.size (.set _ (dcount ns)), I.laid (t' := tk) (fun b o z => hk b o (Heap.lt_size z) z) (Nat.le_refl _) hS, rfl, q _ _ (I.hok.fresh (Nat.le_refl _))⟩
  · obtain ⟨its, rv, pt, hz⟩ := I.tuple hs
    have hlen : its.toArray.size = ns.length := by rw [List.size_toArray, ← rv.length, List.length_map]
    refine L2.call_set_tupI ns (I.ok.hd hc) pt (by simpa using ints_vals rv) (by unfold scanBound; omega) fun h' tk c hS hc' hk => ?_
    have hS' : h'.SetOf (intKind X.prog X.w) s.heap.objs.size (fun j => decide (j ∈ ns)) c := hS.setOf
    have e : c = dcount ns := by
      obtain ⟨o, es, ep, t, ho, hx, hd, g, nd, hm, hb, hf, hn, _⟩ := hS
      rw [← hn, ← dcount_is nd fun k => by rw [← hm k]; simp]
      simp
    subst e
    exact ⟨.ref _, upd H s.heap.objs.size (.set _ (dcount ns)), I.laid (t' := tk) hk (Nat.le_refl _) hS', rfl, q _ _ (I.hok.fresh (Nat.le_refl _))⟩
def rLenS : List V → Hp → VK → Prop := fun vs H Q => ∃ (a : Addr) (S : Int → Bool) (n : Nat), vs = [V.ref a] ∧ H a = some (.set S n) ∧ n ≤ 4000 ∧ Q (.int n) H
theorem cr_lenS : CallR X (.builtin "len") rLenS := by
  intro pins s σ H vs us Q I r h
  obtain ⟨a, S, n, rfl, ha, hn, q⟩ := h
  rw [Vals.ref1 r]
  obtain ⟨o, es, ep, t, ho, hex, hd, _, _, _, hf, hn'⟩ := I.hok a _ ha
  exact call_len_set ho hex hd hf (by rw [hn'] <;> omega) ⟨.int n, H, I.tok _, ⟨_, by rw [hn']⟩, q⟩
end
section
variable {T : TL} {te ta tb tc : TE} {ρ ρ1 ρ2 : List Sl} {d x y z : PyData} {ds es : List PyData} {K : PySem.W.Frag} {i j : Int} {ns : List Int}
theorem rb_lenSet : ∀ {B H : Hp} {v : V} {Q : VK}, Ex B H → (Dt B v (eL ns) ∨ Dt B v (eT ns)) → ns.length ≤ 4000 → (∀ p S, H p = none → Q (.int (dcount ns)) (upd H p (.set S (dcount ns)))) →
    rSetI K [v] H fun w H2 => rLenS [w] H2 Q := fun {B H v Q} e q hl k => by
  have hd : dcount ns ≤ 4000 := Nat.le_trans (dcount_le ns) hl
  rcases q with q | q
  · obtain ⟨a, xs, rfl, f2, q⟩ := q.inv_lst
    have ex := q.ints
    subst ex
    exact ⟨a, ns, rfl, .inl (SqL.of (e _ _ f2)), hl, fun p S hp => ⟨p, S, _, rfl, upd_same, hd, k p S hp⟩⟩
  · obtain ⟨a, xs, rfl, f2, q⟩ := q.inv_tup
    have ex := q.ints
    subst ex
    exact ⟨a, ns, rfl, .inr (SqT.of (e _ _ f2)), hl, fun p S hp => ⟨p, S, _, rfl, upd_same, hd, k p S hp⟩⟩
/-- len(set(xs)) -/
theorem ee_lenSetL (h : EE T te ρ (eL ns) ρ1) (hl : ns.length ≤ 4000) : EE T (tCB rLenS (tCons (tCB (rSetI K) (tCons te tNil)) tNil)) ρ (.int (dcount ns)) ρ1 := fun F W B H σ Q E k =>
  h F W B H σ _ E fun v B1 H1 e1 E1 q1 => rb_lenSet E1.bh (.inl q1) hl fun p S hp => k _ B1 _ e1 (E1.grow (Grow.junk E1.bh hp)) (.int _)
theorem ee_lenSetT (h : EE T te ρ (eT ns) ρ1) (hl : ns.length ≤ 4000) : EE T (tCB rLenS (tCons (tCB (rSetI K) (tCons te tNil)) tNil)) ρ (.int (dcount ns)) ρ1 := fun F W B H σ Q E k =>
  h F W B H σ _ E fun v B1 H1 e1 E1 q1 => rb_lenSet E1.bh (.inr q1) hl fun p S hp => k _ B1 _ e1 (E1.grow (Grow.junk E1.bh hp)) (.int _)

/-! ### in -/
theorem inV_ints (i : Int) : ∀ ns : List Int, inV (.int i) (ns.map V.int) = ns.contains i
  | [] => rfl
  | n :: ns => by
    show (eqV (.int n) (.int i) || inV (.int i) (ns.map V.int)) = _
    rw [inV_ints i ns, List.contains_cons]
    congr 1
    show (n == i) = (i == n)
    exact Bool.beq_comm
theorem flat_ints : ∀ ns : List Int, (ns.map V.int).all flatV = true
  | [] => rfl
  | n :: ns => by rw [List.map_cons, List.all_cons, flat_ints ns]; rfl
theorem re_inT : RE (rIn K false) (.int i) (eT ns) (.bool (ns.contains i)) := fun B H vx vy Q e bt q1 q2 k => by
  obtain ⟨a, xs, f1, f2, q⟩ := q2.inv_tup
  have ex := q.ints
  subst ex
  refine ⟨a, _, f1, .inr (SqT.of (e _ _ f2)), by rw [q1.inv_int]; rfl, flat_ints ns, ?_⟩
  rw [q1.inv_int, inV_ints]
  exact k _ B H (Grow.refl e) (.bl _)
theorem re_inL : RE (rIn K false) (.int i) (eL ns) (.bool (ns.contains i)) := fun B H vx vy Q e bt q1 q2 k => by
  obtain ⟨a, xs, f1, f2, q⟩ := q2.inv_lst
  have ex := q.ints
  subst ex
  refine ⟨a, _, f1, .inl (SqL.of (e _ _ f2)), by rw [q1.inv_int]; rfl, flat_ints ns, ?_⟩
  rw [q1.inv_int, inV_ints]
  exact k _ B H (Grow.refl e) (.bl _)
theorem re_niT : RE (rIn K true) (.int i) (eT ns) (.bool (!ns.contains i)) := fun B H vx vy Q e bt q1 q2 k => by
  obtain ⟨a, xs, f1, f2, q⟩ := q2.inv_tup
  have ex := q.ints
  subst ex
  refine ⟨a, _, f1, .inr (SqT.of (e _ _ f2)), by rw [q1.inv_int]; rfl, flat_ints ns, ?_⟩
  rw [q1.inv_int, inV_ints]
  exact k _ B H (Grow.refl e) (.bl _)
theorem re_niL : RE (rIn K true) (.int i) (eL ns) (.bool (!ns.contains i)) := fun B H vx vy Q e bt q1 q2 k => by
  obtain ⟨a, xs, f1, f2, q⟩ := q2.inv_lst
  have ex := q.ints
  subst ex
  refine ⟨a, _, f1, .inl (SqL.of (e _ _ f2)), by rw [q1.inv_int]; rfl, flat_ints ns, ?_⟩
  rw [q1.inv_int, inV_ints]
  exact k _ B H (Grow.refl e) (.bl _)
/-- in, data of any depth, of a tuple -/
def rInDT (K : PySem.W.Frag) : R2 := fun x y H Q => ∃ d ds, Dp K H x d ∧ Dp K H y (.tuple ds) ∧ SeqAt.shaped d = true ∧ SeqAt.shaped (.tuple ds) = true ∧ Q (.bl (ds.any fun z => PyData.eqv z d)) H
theorem op_inDT {X : Cx} (hu : X.A.units + 65 < cLine) : OpR X (compareOp .In) (rInDT X.K) := by
  intro pins s σ H x y v u Q I rx ry h
  obtain ⟨d, ds, hd, he, sd, se, q⟩ := h
  obtain ⟨as, r1⟩ := Dp.reads I d x v hd rx
  obtain ⟨bs, r2⟩ := Dp.reads I (.tuple ds) y u he ry
  exact SeqAt.in_tuple_reads r2 r1 (SeqAt.canLay_of_shaped se) (SeqAt.canLay_of_shaped sd) (room_in_shaped sd hu) ⟨.bl _, H, I, rfl, q⟩
theorem re_inDT (h1 : SeqAt.shaped x = true) (h2 : SeqAt.shaped (.tuple ds) = true) : RE (rInDT K) x (.tuple ds) (.bool (ds.any fun z => PyData.eqv z x)) := fun B H vx vy Q e bt q1 q2 k =>
  ⟨x, ds, q1.dp e, q2.dp e, h1, h2, k _ B H (Grow.refl e) (.bl _)⟩
theorem re_inDL (h1 : SeqAt.shaped x = true) (h2 : SeqAt.shaped (.list ds) = true) : RE (rInD K) x (.list ds) (.bool (ds.any fun z => PyData.eqv z x)) := fun B H vx vy Q e bt q1 q2 k =>
  ⟨x, ds, q1.dp e, q2.dp e, h1, h2, k _ B H (Grow.refl e) (.bl _)⟩
theorem re_niDL (h1 : SeqAt.shaped x = true) (h2 : SeqAt.shaped (.list ds) = true) : RE (rNotInD K) x (.list ds) (.bool (!ds.any fun z => PyData.eqv z x)) := fun B H vx vy Q e bt q1 q2 k =>
  ⟨x, ds, q1.dp e, q2.dp e, h1, h2, k _ B H (Grow.refl e) (.bl _)⟩
theorem any_eP (p : Int × Int) : ∀ ps : List (Int × Int), ((ps.map eP).any fun z => PyData.eqv z (eP p)) = ps.contains p
  | [] => rfl
  | q :: ps => by
    rw [List.map_cons, List.any_cons, any_eP p ps, List.contains_cons, eqv_eP]
    congr 1
    by_cases h : q = p
    · subst h; simp
    · have : ¬ p = q := fun z => h z.symm
      simp [h, this]
/-! ### t < u -/
theorem re_ltT {ms : List Int} : RE (rLtT K) (eT ns) (eT ms) (.bool (HT.lexLt ns ms)) := fun B H vx vy Q e bt q1 q2 k => by
  obtain ⟨a, xs, f1, f2, q⟩ := q1.inv_tup
  obtain ⟨b, ys, g1, g2, r⟩ := q2.inv_tup
  have e1 := q.ints
  have e2 := r.ints
  subst e1 e2
  exact ⟨a, b, ns, ms, f1, g1, SqT.of (e _ _ f2), SqT.of (e _ _ g2), k _ B H (Grow.refl e) (.bl _)⟩

/-! ### list(range(..)), tuple(range(..)) -/
theorem rgV_rng {B : Hp} (a b : Int) : DtAll B (rgV a b) (rng a (b - a).toNat) := by
  unfold rgV rng
  generalize List.range (b - a).toNat = l
  induction l with
  | nil => exact .nil
  | cons n l ih => exact .cons (.int _) ih
theorem el_listR1 {n : Int} (h : EE T te ρ (.int n) ρ1) (hn : 0 ≤ n ∧ n ≤ 100000) : EL T (tLstRg (tRg1 te)) ρ (rng 0 n.toNat) ρ1 := fun F W B H σ Q E k =>
  h F W B H σ _ E fun v B1 H1 e1 E1 q1 => ⟨n, q1.inv_int, ⟨by omega, by omega, by omega, by omega, by omega⟩, fun p hp => by
    have g := Grow.junk (o := .lst (rgV 0 n)) E1.bh hp
    have r := rgV_rng (B := B1) 0 n
    rw [Int.sub_zero] at r
    exact k p _ B1 _ e1 (E1.grow g) (Evl.fresh_back E1.bh hp) (Evl.fresh_back E1.fh hp) upd_same r (E1.notOwn hp)⟩
theorem ee_tupR1 {n : Int} (h : EE T te ρ (.int n) ρ1) (hn : 0 ≤ n ∧ n ≤ 100000) : EE T (tTupRg (tRg1 te)) ρ (.tuple (rng 0 n.toNat)) ρ1 := fun F W B H σ Q E k =>
  h F W B H σ _ E fun v B1 H1 e1 E1 q1 => ⟨n, q1.inv_int, ⟨by omega, by omega, by omega, by omega, by omega⟩, fun p hp => by
    have g := Grow.new (o := .tup (rgV 0 n)) E1.bh hp (fun ps z => by cases z)
    have r := rgV_rng (B := B1) 0 n
    rw [Int.sub_zero] at r
    exact k _ _ _ (e1.trans g.bb) (E1.grow g) (.tup upd_same (r.mono g.bb))⟩
theorem el_listR2 {lo n : Int} (h : EE T ta ρ (.int lo) ρ1) (h2 : EE T tb ρ1 (.int n) ρ2) (hl : -100000 ≤ lo ∧ lo ≤ 100000) (hn : -100000 ≤ n ∧ n ≤ 100000) : EL T (tLstRg (tRg2 ta tb)) ρ (rng lo (n - lo).toNat) ρ2 := fun F W B H σ Q E k =>
  h F W B H σ _ E fun v B1 H1 e1 E1 q1 => h2 F W B1 H1 σ _ E1 fun u B2 H2 e2 E2 q2 => ⟨lo, n, (q1.mono e2).inv_int, q2.inv_int, ⟨by omega, by omega, by omega, by omega, by omega⟩, fun p hp => by
    have g := Grow.junk (o := .lst (rgV lo n)) E2.bh hp
    exact k p _ B2 _ (e1.trans e2) (E2.grow g) (Evl.fresh_back E2.bh hp) (Evl.fresh_back E2.fh hp) upd_same (rgV_rng lo n) (E2.notOwn hp)⟩
/-- the numbers lo, lo + 1, .. -/
def ri (lo : Int) (n : Nat) : List Int := (List.range n).map fun (i : Nat) => lo + (i : Int)
theorem rng_ri (lo : Int) (n : Nat) : rng lo n = (ri lo n).map PyData.int := by unfold rng ri; rw [List.map_map]; rfl

/-! ### sorted of pairs -/
def ltPr (p q : Int × Int) : Bool := if p.1 = q.1 then decide (p.2 < q.2) else decide (p.1 < q.1)
def insP (x : Int × Int) : List (Int × Int) → List (Int × Int)
  | [] => [x]
  | y :: ys => if ltPr y x then y :: insP x ys else x :: y :: ys
def sortP : List (Int × Int) → List (Int × Int)
  | [] => []
  | x :: xs => insP x (sortP xs)
theorem insP_perm (x : Int × Int) : ∀ ys, (insP x ys).Perm (x :: ys)
  | [] => List.Perm.refl _
  | y :: ys => by
    unfold insP
    split
    · exact ((insP_perm x ys).cons y).trans (List.Perm.swap x y ys)
    · exact List.Perm.refl _
theorem sortP_perm : ∀ xs, (sortP xs).Perm xs
  | [] => List.Perm.refl _
  | x :: xs => (insP_perm x (sortP xs)).trans ((sortP_perm xs).cons x)
def leP (p q : Int × Int) : Prop := p.1 < q.1 ∨ (p.1 = q.1 ∧ p.2 ≤ q.2)
theorem ltPr_iff (p q : Int × Int) : ltPr p q = true ↔ p.1 < q.1 ∨ (p.1 = q.1 ∧ p.2 < q.2) := by
  unfold ltPr
  split <;> simp <;> omega
theorem insP_sorted (x : Int × Int) : ∀ ys, ys.Pairwise leP → (insP x ys).Pairwise leP
  | [], _ => by simp [insP]
  | y :: ys, h => by
    have h' := List.pairwise_cons.mp h
    unfold insP
    split
    · rename_i hyx
      rw [ltPr_iff] at hyx
      refine List.pairwise_cons.mpr ⟨fun z hz => ?_, insP_sorted x ys h'.2⟩
      rcases List.mem_cons.mp ((insP_perm x ys).mem_iff.mp hz) with rfl | hz
      · unfold leP; omega
      · exact h'.1 z hz
    · rename_i hyx
      rw [ltPr_iff] at hyx
      refine List.pairwise_cons.mpr ⟨fun z hz => ?_, h⟩
      rcases List.mem_cons.mp hz with rfl | hz
      · unfold leP; omega
      · have := h'.1 z hz
        unfold leP at this ⊢
        omega
theorem sortP_sorted : ∀ xs, (sortP xs).Pairwise leP
  | [] => List.Pairwise.nil
  | x :: xs => insP_sorted x _ (sortP_sorted xs)
theorem sorted_uniq : ∀ {a b : List (Int × Int)}, a.Perm b → a.Pairwise leP → b.Pairwise leP → a = b
  | [], b, h, _, _ => (List.Perm.nil_eq h)
  | x :: a, [], h, _, _ => by have := h.length_eq; simp at this
  | x :: a, y :: b, h, ha, hb => by
    have ha' := List.pairwise_cons.mp ha
    have hb' := List.pairwise_cons.mp hb
    have e : x = y := by
      have hx : x ∈ y :: b := h.mem_iff.mp List.mem_cons_self
      have hy : y ∈ x :: a := h.mem_iff.mpr List.mem_cons_self
      rcases List.mem_cons.mp hx with rfl | hx
      · rfl
      · rcases List.mem_cons.mp hy with rfl | hy
        · rfl
        · have h1 := hb'.1 x hx
          have h2 := ha'.1 y hy
          unfold leP at h1 h2
          refine Prod.ext ?_ ?_ <;> omega
    subst e
    rw [sorted_uniq (List.Perm.cons_inv h) ha'.2 hb'.2]
theorem sortP_is {xs ys : List (Int × Int)} (h : ys.Perm xs) (hs : ys.Pairwise leP) : ys = sortP xs := sorted_uniq (h.trans (sortP_perm xs).symm) hs (sortP_sorted xs)
/-- the pair that stands at a value -/
def prAt (H : Hp) : V → Int × Int
  | .ref t => (match H t with | some (.tup [.int i, .int j]) => (i, j) | _ => (0, 0))
  | _ => (0, 0)
theorem prAt_dt {B H : Hp} (e : Ex B H) {v : V} {p : Int × Int} (h : Dt B v (eP p)) : prAt H v = p ∧ ∃ t, v = V.ref t ∧ H t = some (.tup [.int p.1, .int p.2]) := by
  obtain ⟨a, xs, rfl, f2, q⟩ := h.inv_tup
  obtain ⟨u, w, rfl, q1, q2⟩ := dt2 q
  have e1 := q1.inv_int
  have e2 := q2.inv_int
  subst e1 e2
  have h3 := e _ _ f2
  refine ⟨?_, a, rfl, h3⟩
  show (match H a with | some (.tup [.int i, .int j]) => (i, j) | _ => (0, 0)) = p
  rw [h3]
theorem dt_pairs {B H : Hp} (e : Ex B H) : ∀ {vs : List V} {ps : List (Int × Int)}, DtAll B vs (ps.map eP) → vs.map (prAt H) = ps ∧ ∀ v ∈ vs, Dt B v (eP (prAt H v))
  | [], [], _ => ⟨rfl, fun v hv => by cases hv⟩
  | [], p :: ps, h => by cases h
  | v :: vs, [], h => by cases h
  | v :: vs, p :: ps, h => by
    cases h with
    | cons h1 h2 =>
      obtain ⟨e1, e2⟩ := dt_pairs e h2
      have := (prAt_dt e h1).1
      refine ⟨by rw [List.map_cons, this, e1], fun w hw => ?_⟩
      rcases List.mem_cons.mp hw with rfl | hw
      · rw [this]; exact h1
      · exact e2 w hw
theorem dt_of_pairs {B H : Hp} : ∀ {vs : List V}, (∀ v ∈ vs, Dt B v (eP (prAt H v))) → DtAll B vs ((vs.map (prAt H)).map eP)
  | [], _ => .nil
  | v :: vs, h => .cons (h v List.mem_cons_self) (dt_of_pairs fun w hw => h w (List.mem_cons_of_mem _ hw))
theorem rbl_sortedP {ps : List (Int × Int)} : RBL (rSortedPO K) [.list (ps.map eP)] ((sortP ps).map eP) := fun B H vs Q e q k => by
  obtain ⟨v, rfl, q0⟩ := dt1 q
  obtain ⟨a, xs, rfl, f2, q⟩ := q0.inv_lst
  obtain ⟨e1, e2⟩ := dt_pairs e q
  refine ⟨a, xs, prAt H, rfl, SqL.of (e _ _ f2), fun x hx => (prAt_dt e (e2 x hx)).2, fun ys p h1 h2 hp => ?_⟩
  have hperm : (ys.map (prAt H)).Perm ps := by rw [← e1]; exact h2.perm.map _
  have hsort : (ys.map (prAt H)).Pairwise leP := by
    rw [List.pairwise_map]
    refine List.Pairwise.imp ?_ h1
    intro x y hxy
    have := SrtO.lexB_no.mp hxy
    unfold leP
    omega
  have hy : ys.map (prAt H) = sortP ps := sortP_is hperm hsort
  have hd : ∀ v ∈ ys, Dt B v (eP (prAt H v)) := fun v hv => e2 v (h2.perm.mem_iff.mp hv)
  have := dt_of_pairs hd
  rw [hy] at this
  exact k p ys _ hp (Ex.new hp) upd_same this
end
end DL
namespace DL
open PySem L2 PyProof.Rows
open Evl (Ex)

/-! ### the built-in names -/
structure Bt (mg : Str → Option Value) : Prop where
  len : mg "len" = none
  range : mg "range" = none
  tuple : mg "tuple" = none
  list : mg "list" = none
  isinstance : mg "isinstance" = none
  all : mg "all" = none
  abs : mg "abs" = none
  sorted : mg "sorted" = none
  set : mg "set" = none
  max : mg "max" = none
  min : mg "min" = none
  int : mg "int" = none
  bool : mg "bool" = none
  str : mg "str" = none
  sum : mg "sum" = none
  enumerate : mg "enumerate" = none
  valueError : mg "ValueError" = none
theorem bb_len : bootBuiltins "len" = some (.builtin "len") := by decide +kernel
theorem bb_tuple : bootBuiltins "tuple" = some (.type "tuple") := by decide +kernel
theorem bb_list : bootBuiltins "list" = some (.type "list") := by decide +kernel
theorem bb_isinstance : bootBuiltins "isinstance" = some (.builtin "isinstance") := by decide +kernel
theorem bb_all : bootBuiltins "all" = some (.builtin "all") := by decide +kernel
theorem bb_abs : bootBuiltins "abs" = some (.builtin "abs") := by decide +kernel
theorem bb_sorted : bootBuiltins "sorted" = some (.builtin "sorted") := by decide +kernel
theorem bb_set : bootBuiltins "set" = some (.type "set") := by decide +kernel
theorem bb_max : bootBuiltins "max" = some (.builtin "max") := by decide +kernel
theorem bb_min : bootBuiltins "min" = some (.builtin "min") := by decide +kernel
theorem bb_int : bootBuiltins "int" = some (.type "int") := by decide +kernel
theorem bb_bool : bootBuiltins "bool" = some (.type "bool") := by decide +kernel
theorem bb_str : bootBuiltins "str" = some (.type "str") := by decide +kernel
theorem bb_sum : bootBuiltins "sum" = some (.builtin "sum") := by decide +kernel
theorem bb_ve : bootBuiltins "ValueError" = some (.type "ValueError") := by decide +kernel

/-! ### defs and calls -/
structure Fn (K : PySem.W.Frag) (mg : Str → Option Value) (x : Str) (st : Stmt) : Prop where
  ex : ∃ f fd, Fun K x x st f fd ∧ mg x = some (.ref f)
structure Cal (P : Program) (w : World) (K : PySem.W.Frag) (mg : Str → Option Value) (base : Heap) (k : Nat) (x : Str) (ps : List Str) (sp : Sp) : Prop where
  ex : ∃ f fd, FnOk P w K mg base (L2N.CX P w) k f fd ps sp ∧ mg x = some (.ref f) ∧ PySem.W.keepIn K (.ref f) = true ∧ Binds K fd ps []
/-- how a def's arguments bind -/
def BindsAs (x : Str) (st : Stmt) (ps : List Str) : Prop := ∀ (kV doc pm : Value) (an : Option Addr) (cdv ct : Value) (us : List Value), us.length = ps.length → bindArgs (PySem.W.fnOf x x (defArgs st) (defBody st) (defScope st) .none kV doc pm an cdv ct) ⟨us, []⟩ = pure (ps.zip us)
section
variable {P : Program} {w : World} {K : PySem.W.Frag} {mg : Str → Option Value} {base : Heap}
theorem calP {x : Str} {st : Stmt} {N ps : List Str} {k : Nat} {R : List PyData → Res → Prop} (F : Fn K mg x st) (S : FnScope N ps (defScope st)) (hbind : BindsAs x st ps) (hl : ∀ ds r, R ds r → ds.length = ps.length)
    (hb : ∀ (f : Addr) (cdv : Value) (A : Around) (outer : List PySem.Env) (s : Shared) (H : Hp) (E : XK), Room k (A.deeper (envOfC x (defScope st) s.heap.objs.size f cdv)) →
      ∃ t, PSs (cxOf (L2N.CX P w) P w K mg base N x (defScope st) f cdv A outer s H E) (defBody st) t ∧ ∀ ds r, R ds r → ∃ o, SS [] E t (slots N.length ds) o ∧ Answers r o) :
    Cal P w K mg base (k + 1) x ps (spP R) := by
  obtain ⟨f, fd, Fu, hm⟩ := F.ex
  exact ⟨f, fd, fnP Fu S hl (fun cdv A outer s H E hr => hb f cdv A outer s H E hr), hm, Fu.kp, Fu.binds hbind⟩
/-- .. of a def that raises nothing -/
theorem calQ {x : Str} {st : Stmt} {N ps : List Str} {k : Nat} {R : List PyData → Res → Prop} (F : Fn K mg x st) (S : FnScope N ps (defScope st)) (hbind : BindsAs x st ps) (hl : ∀ ds r, R ds r → ds.length = ps.length)
    (hb : ∀ (f : Addr) (cdv : Value) (A : Around) (outer : List PySem.Env) (s : Shared) (H : Hp) (E : XK), Room k (A.deeper (envOfC x (defScope st) s.heap.objs.size f cdv)) →
      ∃ t, PSs (cxOf (L2N.CX P w) P w K mg base N x (defScope st) f cdv A outer s H E).nox (defBody st) t ∧ ∀ ds r, R ds r → ∃ o, SS [] E t (slots N.length ds) o ∧ Answers r o) :
    Cal P w K mg base (k + 1) x ps (spP R) :=
  calP F S hbind hl fun f cdv A outer s H E hr => by
    obtain ⟨t, h1, h2⟩ := hb f cdv A outer s H E hr
    exact ⟨t, h1.nox, h2⟩
theorem Cal.mono {j k : Nat} {x : Str} {ps : List Str} {sp : Sp} (c : Cal P w K mg base j x ps sp) (h : j ≤ k) : Cal P w K mg base k x ps sp := by
  obtain ⟨f, fd, F, r⟩ := c.ex
  exact ⟨f, fd, F.mono h, r⟩
/-- another promise that follows -/
theorem Cal.imp {k : Nat} {x : Str} {ps : List Str} {sp sp' : Sp} (c : Cal P w K mg base k x ps sp) (h : ∀ vs H Q E, sp' vs H Q E → sp vs H Q E) : Cal P w K mg base k x ps sp' := by
  obtain ⟨f, fd, F, r⟩ := c.ex
  exact ⟨f, fd, F.imp h, r⟩
end
section
variable {X : Cx} {k : Nat} {x : Str} {ps : List Str} {sp : Sp} {e : Expr} {es : List Expr} {t : TA} {p pos : Pos} {E : XK}
/-- a call that raises nothing -/
theorem pe_cal (c : Cal X.prog X.w X.K X.mg X.base k x ps sp) (hr : Room k X.A) (hg : Gl X x) (ha : PA X (e :: es) t)
    (hdb : (x == ("__debug__" : Str)) = false := by decide) (he : starEach (e :: es) X.env = (false, eval e X.env) :: starEach es X.env := by rfl) (hpl : (backTo pos (starEach es X.env)).any (·.1) = false := by rfl) :
    PE X (.Call (.Name x p) (e :: es) [] pos) (tCall sp [] E0 t) := by
  obtain ⟨f, fd, F, hm, hk, hb⟩ := c.ex
  exact pe_call F hr hg hm hk hb .nil passN ha hdb he hpl
/-- a call whose exception goes on -/
theorem pe_calX (c : Cal X.prog X.w X.K X.mg X.base k x ps sp) (hr : Room k X.A) (hg : Gl X x) (tk : L2N.Takes X (fun cls d _ H => E cls d H)) (ha : PA X (e :: es) t)
    (hdb : (x == ("__debug__" : Str)) = false := by decide) (he : starEach (e :: es) X.env = (false, eval e X.env) :: starEach es X.env := by rfl) (hpl : (backTo pos (starEach es X.env)).any (·.1) = false := by rfl) :
    PE X (.Call (.Name x p) (e :: es) [] pos) (tCall sp [] E t) := by
  obtain ⟨f, fd, F, hm, hk, hb⟩ := c.ex
  exact pe_call F hr hg hm hk hb .nil (L2N.passes_call tk fun _ _ _ _ h => h) ha hdb he hpl
end
/-- an exception class of the program's -/
structure Xc (K : PySem.W.Frag) (mg : Str → Option Value) (x : Str) (C : Addr) : Prop where
  g : mg x = some (.ref C)
  q : PySem.W.excIn K C [.type "ValueError", .type "Exception", .type "BaseException", .type "object"] "ValueError.__new__" = true
  k : PySem.W.keepIn K (.ref C) = true
  b : PySem.W.subIn K (.ref C) (.type "BaseException") = some true
  t : PySem.W.typeIn K (.ref C) = some (.type "type")
section
variable {X : Cx} {x m : Str} {C : Addr} {j : Nat} {p p2 pos pos2 : Pos} {E : XK}
/-- raise C('m') -/
theorem ps_raiseC (c : Xc X.K X.mg x C) (hc : X.calm = true) (hg : Gl X x) (tk : L2N.Takes X (fun cls d _ H => E cls d H)) (hdb : (x == ("__debug__" : Str)) = false := by decide) :
    PS X (.Raise (some (.Call (.Name x p) [.Constant (.str m) j p2] [] pos)) none pos2) (fun _ _ H => E (.ref C) none H) :=
  L2N.ps_raise hc tk (L2N.pmk_own PySem.F.excBase_ValueError c.q c.g c.k (raises_own c.b c.t) hg hdb)
end
theorem ss_raiseC {T : TL} {X : XK} {ρ : List Sl} {C : Addr} : SS T X (fun _ _ H => X (.ref C) none H) ρ (.ex C ρ) := fun F W D B H σ Ev k => k σ B H (Ex.refl _) Ev
end DL
namespace DL
open PySem L2
theorem hu0 {A : Around} {k : Nat} (hr : Room k A) : A.units < cLine := hr.units0
theorem hu64 {A : Around} {k : Nat} (hr : Room k A) : A.units + 64 < cLine := hr.units
theorem hu65 {A : Around} {k : Nat} (hr : Room k A) : A.units + 65 < cLine := by have := hr.un; omega
end DL
namespace DL
open PySem L2 PyProof.Rows
section
variable {X : Cx} {K : PySem.W.Frag}
theorem ixT (h : X.K = K) : IxR X (rIxT K) := by subst h; exact ix_tup
theorem ixL (h : X.K = K) : IxR X (rIxL K) := by subst h; exact ix_list
theorem isiK (h : X.K = K) : CallR X (.builtin "isinstance") (rIsi K) := by subst h; exact call_isi
theorem lenK (h : X.K = K) : CallR X (.builtin "len") (rLenQ K) := by subst h; exact call_len_seq
theorem allK (h : X.K = K) (hc : X.calm = true) : CallR X (.builtin "all") (rAll K) := by subst h; exact cr_all hc
theorem sumK (h : X.K = K) (hc : X.calm = true) : CallR X (.builtin "sum") (rSum K) := by subst h; exact cr_sum hc
theorem maxK (h : X.K = K) (hc : X.calm = true) : CallR X (.builtin "max") (rMax K) := by subst h; exact cr_max hc
theorem tupK (h : X.K = K) : CallR X (.type "tuple") (rTupOf K) := by subst h; exact call_tuple_of
theorem listK (h : X.K = K) : CallR X (.type "list") (rListOf K) := by subst h; exact call_list_of
theorem setK (h : X.K = K) (hc : X.calm = true) : CallR X (.type "set") (rSetI K) := by subst h; exact cr_setI hc
theorem srtI (h : X.K = K) : CallR X (.builtin "sorted") (rSortedI K) := by subst h; exact cr_sortedI
theorem srtP (h : X.K = K) : CallR X (.builtin "sorted") (rSortedPO K) := by subst h; exact cr_sortedPO
theorem inK (h : X.K = K) : OpR X (compareOp .In) (rIn K false) := by subst h; exact op_in_seq
theorem niK (h : X.K = K) : OpR X (compareOp .NotIn) (rIn K true) := by subst h; exact op_notIn_seq
theorem eqDK (h : X.K = K) (hu : X.A.units + 64 < cLine) : OpR X (compareOp .Eq) (rEqD K) := by subst h; exact op_eqD hu
theorem neDK (h : X.K = K) (hu : X.A.units + 64 < cLine) : OpR X (compareOp .NotEq) (rNeD K) := by subst h; exact op_neD hu
theorem ltTK (h : X.K = K) (hu : X.A.units < cLine) : OpR X (compareOp .Lt) (rLtT K) := by subst h; exact op_ltT hu
theorem inDTK (h : X.K = K) (hu : X.A.units + 65 < cLine) : OpR X (compareOp .In) (rInDT K) := by subst h; exact op_inDT hu
theorem inDK (h : X.K = K) (hu : X.A.units + 65 < cLine) : OpR X (compareOp .In) (rInD K) := by subst h; exact op_inD hu
theorem niDK (h : X.K = K) (hu : X.A.units + 65 < cLine) : OpR X (compareOp .NotIn) (rNotInD K) := by subst h; exact op_notInD hu
theorem catAK (h : X.K = K) : OpR X (binaryOp .Add) (rCatA K) := by subst h; exact op_catA
theorem slTK (h : X.K = K) : SlR X (rSlA K) := by subst h; exact sl_tupA
theorem slLK (h : X.K = K) : SlR X (rSlL K) := by subst h; exact sl_list
theorem piT {tg l : Expr} {tl : TE} (h : X.K = K) (hl : PE X l tl) : PI X tg l (iTup K tl) := by subst h; exact pi_tup hl
theorem piL {tg l : Expr} {tl : TE} (h : X.K = K) (hl : PE X l tl) : PI X tg l (iList K tl) := by subst h; exact pi_list hl
theorem pgT {es : List Expr} {k : Nat} {t : TGs} {n : Nat} {pos : Pos} (h : X.K = K) (hc : X.calm = true) (hs : PGs X es t)
    (hn : (assignEach es X.env).length = n := by rfl) (hst : (assignEach es X.env).findIdx? (·.1) = none := by rfl) : PG X (.Tuple es k pos) (gTup K n t) := by subst h; exact pg_tup hc hs hn hst
theorem appK {o e : Expr} {es : List Expr} {to : TE} {t : TA} {apos cpos : Pos} (h : X.K = K) (ho : PE X o to) (ha : PA X (e :: es) t)
    (hbase : attributeBase o "append" X.env (eval o X.env) = eval o X.env := by rfl)
    (hfew : ((backTo cpos (starEach (e :: es) X.env)).all (fun x => !x.1) && (backToKw cpos (keywordEach [] X.env)).all (fun x => x.1.isSome)
      && decide ((e :: es).length + ([] : List Keyword).length + (if ([] : List Keyword).isEmpty then 0 else 1) < 30)) = true := by rfl)
    (hline : (apos.endLine == cpos.line) = true := by rfl) (hs : starEach (e :: es) X.env = (false, eval e X.env) :: starEach es X.env := by rfl) (hplain : (backTo cpos (starEach es X.env)).any (·.1) = false := by rfl) :
    PE X (.Call (.Attribute o "append" apos) (e :: es) [] cpos) (tBM K "list" rAppend to t) := by
  subst h
  exact pe_bm PySem.F.plainAttrs_list PySem.F.slot_list_append PySem.F.type_list_append mt_append ho ha hbase hfew hline hs hplain
end
end DL
namespace DL
open PySem L2 PyProof.Rows
open Evl (Ex)
/-! ### weakening, loops by accumulators -/
theorem Weaker.nil : Weaker [] [] := ⟨rfl, fun i s h => by simp at h⟩
theorem Weaker.cons {a b : List Sl} {s s' : Sl} (hs : s' = .no ∨ s = s') (h : Weaker a b) : Weaker (s :: a) (s' :: b) := by
  refine ⟨by rw [List.length_cons, List.length_cons, h.1], fun i t ht => ?_⟩
  cases i with
  | zero =>
    simp at ht
    subst ht
    rcases hs with h | h
    · exact .inl h
    · exact .inr (by simp [h])
  | succ i => simpa using h.2 i t (by simpa using ht)
theorem Weaker.same {a b : List Sl} {s : Sl} (h : Weaker a b) : Weaker (s :: a) (s :: b) := .cons (.inr rfl) h
theorem Weaker.no {a b : List Sl} {s : Sl} (h : Weaker a b) : Weaker (s :: a) (.no :: b) := .cons (.inl rfl) h
theorem Weaker.refl (a : List Sl) : Weaker a a := ⟨rfl, fun _ _ h => .inr h⟩
theorem forR_fold {α S : Type} {P : PyData → List Sl → Out → Prop} (enc : α → PyData) (ρ : S → List Sl) (f : S → α → S) (I : S → Prop) : ∀ (xs : List α) (s : S), I s → (∀ s x, x ∈ xs → I s → P (enc x) (ρ s) (.nx (ρ (f s x))) ∧ I (f s x)) → ForR P (xs.map enc) (ρ s) (.nx (ρ (xs.foldl f s)))
  | [], s, _, _ => .nil
  | x :: xs, s, hs, h => by
    obtain ⟨h1, h2⟩ := h s x List.mem_cons_self hs
    exact .next h1 (forR_fold enc ρ f I xs (f s x) h2 fun s y hy => h s y (List.mem_cons_of_mem _ hy))
theorem forR_acc {α : Type} {P : PyData → List Sl → Out → Prop} (enc f : α → PyData) (ρ : List PyData → List Sl) : ∀ (xs : List α) (acc : List PyData), (∀ acc' x, x ∈ xs → acc'.length < acc.length + xs.length → P (enc x) (ρ acc') (.nx (ρ (acc' ++ [f x])))) → ForR P (xs.map enc) (ρ acc) (.nx (ρ (acc ++ xs.map f)))
  | [], acc, _ => by simpa using ForR.nil
  | x :: xs, acc, h => by
    have h1 := h acc x List.mem_cons_self (by simp)
    have h2 := forR_acc enc f ρ xs (acc ++ [f x]) fun acc' y hy hl => h acc' y (List.mem_cons_of_mem _ hy) (by simp at hl ⊢; omega)
    rw [List.map_cons, List.map_cons]
    have e : acc ++ f x :: xs.map f = (acc ++ [f x]) ++ xs.map f := by simp
    rw [e]
    exact .next h1 h2

/-! ### a def whose first argument is a list that it changes -/
structure GrowO (p : Addr) (B H B' H' : Hp) : Prop where
  bb : Ex B B'
  bh : Ex B' H'
  hh : ∀ a o, a ≠ p → H a = some o → H' a = some o
  nb : ∀ a, B a = none → H a ≠ none → B' a = none
  bt : (∀ a ps, B a ≠ some (.tbl ps)) → ∀ a ps, B' a ≠ some (.tbl ps)
def spO (R : List PyData → List PyData → Res → List PyData → Prop) : Sp := fun vs H Q E => ∃ B p us xs cs ds r cs', vs = .ref p :: us ∧ Ex B H ∧ (∀ a ps, B a ≠ some (.tbl ps)) ∧ B p = none ∧ H p = some (.lst xs) ∧ DtAll B xs cs ∧ DtAll B us ds ∧ R cs ds r cs' ∧
  (match r with
    | .ok d => ∀ v B' H' ys, GrowO p B H B' H' → H' p = some (.lst ys) → DtAll B' ys cs' → Dt B' v d → Q v H'
    | .ex C => ∀ B' H' ys, GrowO p B H B' H' → H' p = some (.lst ys) → DtAll B' ys cs' → E (.ref C) none H')
section
variable {T : TL} {F : Hp} {W : Addr → Prop} {B H B' H' : Hp} {σ : Sigma} {ρ : List Sl}
theorem Env.growO {p : Addr} {i : Nat} {qa : Option Addr} {cs cs' : List PyData} {ys : List V} (E : Env T F W B H σ ρ) (hi : ρ[i]? = some (.own qa cs)) (hp : σ[i]? = some (some (.ref p))) (g : GrowO p B H B' H') (hy : H' p = some (.lst ys)) (q : DtAll B' ys cs') : Env T F W B' H' σ (ρ.set i (.own qa cs')) := by
  obtain ⟨p', xs, e, hB, hF, hH, qx⟩ := E.own hi
  have hqa : ∀ a, qa = some a → p = a := fun a z => by
    subst z
    have := E.ownAt hi
    rw [hp] at this
    cases this
    rfl
  rw [hp] at e
  cases e
  have hil : i < ρ.length := (List.getElem?_eq_some_iff.mp hi).1
  refine ⟨fun a o ha => g.hh a o (ne_of_none ha hF) (E.fh a o ha), g.bh, E.wf, fun a ha => ?_, fun t ht => ?_, E.ft, g.bt E.bt, by rw [List.length_set]; exact E.ln, fun j s hs => ?_, fun a b r q1 q2 fs gs hab ha hb' => ?_⟩
  · refine g.nb a (E.wb a ha) (fun z => ?_)
    cases e : F a with
    | none => exact E.wf a ha e
    | some o => rw [E.fh a o e] at z; cases z
  · obtain ⟨ps, h1, h2, h3⟩ := E.tb t ht
    refine ⟨ps, g.hh _ _ (ne_of h1 hH (fun z => by cases z)) h1, h2, fun pos cv hc => ?_⟩
    obtain ⟨c, e1, e2⟩ := h3 pos cv hc
    exact ⟨c, e1, g.hh _ _ (ne_of e2 hH (fun z => by unfold LamX.CodeO at z; cases z)) e2⟩
  · by_cases hj : i = j
    · subst hj
      rw [List.getElem?_set_self hil] at hs
      cases hs
      exact ⟨_, hp, p, ys, rfl, g.nb p hB (by rw [hH]; exact fun z => by cases z), hF, hy, q, hqa⟩
    · rw [List.getElem?_set_ne hj] at hs
      obtain ⟨o, h1, h2⟩ := E.sl j s hs
      refine ⟨o, h1, ?_⟩
      cases s with
      | no => trivial
      | dat d => obtain ⟨v, e, q'⟩ := h2; exact ⟨v, e, q'.mono g.bb⟩
      | is k => exact k.mono g.bb h2
      | own qb es' =>
        obtain ⟨r, zs, e', e1, e2, e3, q', qq⟩ := h2
        have nr : r ≠ p := fun z => by
          subst z
          rw [e'] at h1
          exact E.ne i j r qa qb cs es' hj hi hs hp h1
        exact ⟨r, zs, e', g.nb r e1 (by rw [e3]; exact fun z => by cases z), e2, g.hh _ _ nr e3, q'.mono g.bb, qq⟩
  · have key : ∀ (c : Nat) qc fs, (ρ.set i (.own qa cs'))[c]? = some (.own qc fs) → ∃ qd fs', ρ[c]? = some (.own qd fs') := fun c qc fs hc => by
      by_cases z : i = c
      · subst z; exact ⟨qa, cs, hi⟩
      · rw [List.getElem?_set_ne z] at hc; exact ⟨qc, fs, hc⟩
    obtain ⟨g1, f1, k1⟩ := key a q1 fs ha
    obtain ⟨g2, f2, k2⟩ := key b q2 gs hb'
    exact E.ne a b r g1 g2 f1 f2 hab k1 k2
end
section
variable {T : TL} {E : XK} {ρ ρ1 : List Sl} {d : PyData} {ds cs0 cs cs' : List PyData} {ta : TA} {R : List PyData → List PyData → Res → List PyData → Prop} {i : Nat}
/-- f(own, ..) -/
theorem ee_callO {qa qb : Option Addr} (h0 : ρ[i]? = some (.own qa cs0)) (h : EA T ta ρ ds ρ1) (h1 : ρ1[i]? = some (.own qb cs)) (hR : R cs ds (.ok d) cs') : EE T (tCall (spO R) [] E (tCons (tVar i) ta)) ρ d (ρ1.set i (.own qb cs')) := fun F W B H σ Q Ev k => by
  obtain ⟨p, xs, e, _⟩ := Ev.own h0
  refine ⟨_, e, h F W B H σ _ Ev fun us B1 H1 e1 E1 q1 => ?_⟩
  obtain ⟨p', ys, f1, f2, f3, f4, f5⟩ := E1.own h1
  rw [e] at f1
  cases f1
  show spO R ((V.ref p :: us) ++ []) H1 Q E
  rw [List.append_nil]
  exact ⟨B1, p, us, ys, cs, ds, .ok d, cs', rfl, E1.bh, E1.bt, f2, f4, f5, q1, hR, fun v B' H' zs g hz q q' => k v B' H' (e1.trans g.bb) (E1.growO h1 e g hz q) q'⟩
end
def slotsO (p : Addr) (n : Nat) (cs ds : List PyData) : List Sl := .own (some p) cs :: (ds.map Sl.dat ++ List.replicate (n - (ds.length + 1)) .no)
def AnswersO (p : Addr) (cs' : List PyData) : Res → Out → Prop
  | .ok d, .rt d' ρ => d = d' ∧ ρ[0]? = some (.own (some p) cs')
  | .ok d, .nx ρ => d = .none ∧ ρ[0]? = some (.own (some p) cs')
  | .ex C, .ex C' ρ => C = C' ∧ ρ[0]? = some (.own (some p) cs')
  | _, _ => False
theorem startO_env {N : List Str} {p : Addr} {us : List V} {xs : List V} {cs ds : List PyData} {B H : Hp} (hB : Ex B H) (hb : ∀ p ps, B p ≠ some (.tbl ps)) (hp : B p = none) (hH : H p = some (.lst xs)) (qx : DtAll B xs cs) (q : DtAll B us ds) :
    Env [] (fun a => if a = p then none else H a) (fun a => a ≠ p ∧ H a ≠ none ∧ B a = none) B H (L2.start N (.ref p :: us)) (slotsO p N.length cs ds) where
  fh := fun a o ha => by
    by_cases z : a = p
    · simp [z] at ha
    · simpa [z] using ha
  bh := hB
  wf := fun a ha => by simp [ha.1]; exact ha.2.1
  wb := fun a ha => ha.2.2
  tb := fun p hp => by cases hp
  ft := fun h => absurd rfl h
  bt := hb
  ln := by unfold L2.start slotsO; simp [q.length]
  sl := fun i s hs => by
    unfold slotsO at hs
    unfold L2.start
    cases i with
    | zero =>
      simp at hs
      subst hs
      exact ⟨some (.ref p), rfl, p, xs, rfl, hp, by simp, hH, qx, fun a z => by cases z; rfl⟩
    | succ i =>
      have hs : (ds.map Sl.dat ++ List.replicate (N.length - (ds.length + 1)) Sl.no)[i]? = some s := by simpa using hs
      show ∃ o, (us.map some ++ List.replicate (N.length - (us.length + 1)) none)[i]? = some o ∧ _
      by_cases hi : i < ds.length
      · rw [List.getElem?_append_left (by simpa using hi)] at hs
        rw [List.getElem?_append_left (by simpa [q.length] using hi)]
        rw [List.getElem?_map] at hs ⊢
        cases e : ds[i]? with
        | none => rw [e] at hs; cases hs
        | some d =>
          rw [e] at hs
          cases hs
          obtain ⟨v, h1, h2⟩ := q.get e
          exact ⟨some v, by rw [h1]; rfl, v, rfl, h2⟩
      · rw [List.getElem?_append_right (by simpa using hi)] at hs
        rw [List.getElem?_append_right (by simpa [q.length] using hi)]
        rw [List.getElem?_replicate] at hs ⊢
        simp only [List.length_map, q.length] at hs ⊢
        split at hs
        · rename_i h
          cases hs
          exact ⟨none, by rw [if_pos h], trivial⟩
        · cases hs
  ne := fun i j r q1 q2 es fs hij hi hj => by
    have only : ∀ (k : Nat) qc gs, (slotsO p N.length cs ds)[k]? = some (.own qc gs) → k = 0 := fun k qc gs hk => by
      cases k with
      | zero => rfl
      | succ k =>
        unfold slotsO at hk
        have hk : (ds.map Sl.dat ++ List.replicate (N.length - (ds.length + 1)) Sl.no)[k]? = some (Sl.own qc gs) := by simpa using hk
        by_cases hl : k < ds.length
        · rw [List.getElem?_append_left (by simpa using hl), List.getElem?_map] at hk
          cases e : ds[k]? with
          | none => rw [e] at hk; cases hk
          | some d => rw [e] at hk; cases hk
        · rw [List.getElem?_append_right (by simpa using hl), List.getElem?_replicate] at hk
          split at hk <;> cases hk
    exact absurd ((only i q1 es hi).trans (only j q2 fs hj).symm) hij
theorem endO_grow {p : Addr} {B H B' H' : Hp} {σ : Sigma} {ρ : List Sl} (hB : Ex B H) (e : Ex B B') (E : Env [] (fun a => if a = p then none else H a) (fun a => a ≠ p ∧ H a ≠ none ∧ B a = none) B' H' σ ρ) (hp' : B' p = none) : GrowO p B H B' H' :=
  ⟨e, E.bh, fun a o ha h => E.fh a o (by simp [ha, h]), fun a h1 h2 => by
    by_cases z : a = p
    · rw [z]; exact hp'
    · exact E.wb a ⟨z, h2, h1⟩, fun _ => E.bt⟩
section
variable {P : Program} {w : World} {K : PySem.W.Frag} {mg : Str → Option Value} {base : Heap}
theorem calO {x : Str} {st : Stmt} {N ps : List Str} {k : Nat} {R : List PyData → List PyData → Res → List PyData → Prop} (F : Fn K mg x st) (S : FnScope N ps (defScope st)) (hbind : BindsAs x st ps) (hl : ∀ cs ds r cs', R cs ds r cs' → ds.length + 1 = ps.length)
    (hb : ∀ (f : Addr) (cdv : Value) (A : Around) (outer : List PySem.Env) (s : Shared) (H : Hp) (E : XK), Room k (A.deeper (envOfC x (defScope st) s.heap.objs.size f cdv)) →
      ∃ t, PSs (cxOf (L2N.CX P w) P w K mg base N x (defScope st) f cdv A outer s H E).nox (defBody st) t ∧ ∀ p cs ds r cs', R cs ds r cs' → ∃ o, SS [] E t (slotsO p N.length cs ds) o ∧ AnswersO p cs' r o) :
    Cal P w K mg base (k + 1) x ps (spO R) := by
  obtain ⟨f, fd, Fu, hm⟩ := F.ex
  refine ⟨f, fd, Fu.okN S (fun vs H Q E h => ?_) (fun cdv A outer s H vs Q E hr h => ?_), hm, Fu.kp, Fu.binds hbind⟩
  · obtain ⟨B, p, us, xs, cs, ds, r, cs', rfl, _, _, _, _, _, q, hR, _⟩ := h
    rw [List.length_cons, q.length]; exact hl cs ds r cs' hR
  · obtain ⟨t, ht, hs⟩ := hb f cdv A outer s H E hr
    refine ⟨t, ht.nox, ?_⟩
    obtain ⟨B, p, us, xs, cs, ds, r, cs', rfl, hB, hbt, hp, hH, qx, q, hR, k⟩ := h
    obtain ⟨o, ho, ha⟩ := hs p cs ds r cs' hR
    refine ho _ _ _ B H _ (startO_env hB hbt hp hH qx q) ?_
    have fin : ∀ {σ' : Sigma} {B' H' : Hp} {ρ' : List Sl}, Ex B B' → Env [] (fun a => if a = p then none else H a) (fun a => a ≠ p ∧ H a ≠ none ∧ B a = none) B' H' σ' ρ' → ρ'[0]? = some (.own (some p) cs') → GrowO p B H B' H' ∧ ∃ ys, H' p = some (.lst ys) ∧ DtAll B' ys cs' := fun {σ' B' H' ρ'} e E' h0 => by
      obtain ⟨p', ys, f1, f2, f3, f4, f5⟩ := E'.own h0
      have f6 := E'.ownAt h0
      rw [f1] at f6
      cases f6
      exact ⟨endO_grow hB e E' f2, ys, f4, f5⟩
    cases r with
    | ok d =>
      cases o with
      | rt d' ρ' =>
        obtain ⟨e, h0⟩ := (ha : d = d' ∧ ρ'[0]? = some (.own (some p) cs'))
        subst e
        exact fun v σ' B' H' e E' q' => by
          obtain ⟨g, ys, a1, a2⟩ := fin e E' h0
          exact k v B' H' ys g a1 a2 q'
      | nx ρ' =>
        obtain ⟨e, h0⟩ := (ha : d = .none ∧ ρ'[0]? = some (.own (some p) cs'))
        subst e
        exact fun σ' B' H' e E' => by
          obtain ⟨g, ys, a1, a2⟩ := fin e E' h0
          exact k .non B' H' ys g a1 a2 .non
      | ex C ρ' => exact ha.elim
    | ex C =>
      cases o with
      | rt d' ρ' => exact ha.elim
      | nx ρ' => exact ha.elim
      | ex C' ρ' =>
        obtain ⟨e, h0⟩ := (ha : C = C' ∧ ρ'[0]? = some (.own (some p) cs'))
        subst e
        exact fun σ' B' H' e E' => by
          obtain ⟨g, ys, a1, a2⟩ := fin e E' h0
          exact k B' H' ys g a1 a2
end
end DL
namespace DL
open PySem L2
/-- a loop by what was taken -/
theorem forR_pre' {α : Type} {P : PyData → List Sl → Out → Prop} (enc : α → PyData) (ρ : List α → List Sl) : ∀ (xs pre : List α), (∀ pr x post, xs = pr ++ x :: post → P (enc x) (ρ (pre ++ pr)) (.nx (ρ (pre ++ pr ++ [x])))) → ForR P (xs.map enc) (ρ pre) (.nx (ρ (pre ++ xs)))
  | [], pre, _ => by rw [List.append_nil]; exact .nil
  | x :: xs, pre, h => by
    have h1 := h [] x xs rfl
    rw [List.append_nil] at h1
    have h2 := forR_pre' enc ρ xs (pre ++ [x]) fun pr y post e => by
      have := h (x :: pr) y post (by rw [e]; rfl)
      have e1 : pre ++ [x] ++ pr = pre ++ x :: pr := by simp
      rw [e1]
      exact this
    have e : pre ++ x :: xs = pre ++ [x] ++ xs := by simp
    rw [e]
    exact .next h1 h2
theorem forR_pre {α : Type} {P : PyData → List Sl → Out → Prop} (enc : α → PyData) (ρ : List α → List Sl) (xs : List α) (h : ∀ pr x post, xs = pr ++ x :: post → P (enc x) (ρ pr) (.nx (ρ (pr ++ [x])))) : ForR P (xs.map enc) (ρ []) (.nx (ρ xs)) :=
  forR_pre' enc ρ xs [] fun pr x post e => by rw [List.nil_append]; exact h pr x post e
/-- a comprehension that changes the names' values turn by turn -/
theorem lcr_pre' {α : Type} {P : PyData → List Sl → List PyData → List Sl → Prop} (enc : α → PyData) (ρ : List α → List Sl) (f : List α → α → List PyData) : ∀ (xs pre : List α), (∀ pr x post, xs = pr ++ x :: post → P (enc x) (ρ (pre ++ pr)) (f (pre ++ pr) x) (ρ (pre ++ pr ++ [x]))) →
    ∃ es, LcR P (xs.map enc) (ρ pre) es (ρ (pre ++ xs)) ∧ ∀ (g : List α → List PyData), (∀ pr x post, xs = pr ++ x :: post → g (pre ++ pr ++ [x]) = g (pre ++ pr) ++ f (pre ++ pr) x) → g (pre ++ xs) = g pre ++ es
  | [], pre, _ => ⟨[], by rw [List.append_nil]; exact .nil, fun g _ => by simp⟩
  | x :: xs, pre, h => by
    have h1 := h [] x xs rfl
    rw [List.append_nil] at h1
    obtain ⟨es, h2, h3⟩ := lcr_pre' enc ρ f xs (pre ++ [x]) fun pr y post e => by
      have := h (x :: pr) y post (by rw [e]; rfl)
      have e1 : pre ++ [x] ++ pr = pre ++ x :: pr := by simp
      rw [e1]
      exact this
    have e : pre ++ x :: xs = pre ++ [x] ++ xs := by simp
    refine ⟨f pre x ++ es, by rw [e]; exact .cons h1 h2, fun g hg => ?_⟩
    have g1 := h3 g fun pr y post e => by
      have := hg (x :: pr) y post (by rw [e]; rfl)
      have e1 : pre ++ [x] ++ pr = pre ++ x :: pr := by simp
      rw [e1]
      exact this
    have g0 := hg [] x xs rfl
    rw [List.append_nil] at g0
    rw [e, g1, g0, List.append_assoc]
theorem lcr_pre {α : Type} {P : PyData → List Sl → List PyData → List Sl → Prop} (enc : α → PyData) (ρ : List α → List Sl) (g : List α → List PyData) (xs : List α) (h0 : g [] = []) (h : ∀ pr x post, xs = pr ++ x :: post → ∃ es, g (pr ++ [x]) = g pr ++ es ∧ P (enc x) (ρ pr) es (ρ (pr ++ [x]))) : LcR P (xs.map enc) (ρ []) (g xs) (ρ xs) := by
  obtain ⟨es, h1, h2⟩ := lcr_pre' enc ρ (fun pr x => (g (pr ++ [x])).drop (g pr).length) xs [] fun pr x post e => by
    obtain ⟨es, e1, e2⟩ := h pr x post e
    rw [List.nil_append]
    show P (enc x) (ρ pr) ((g (pr ++ [x])).drop (g pr).length) (ρ (pr ++ [x]))
    rw [e1, List.drop_left]
    exact e2
  have e := h2 g fun pr x post e => by
    obtain ⟨es, e1, _⟩ := h pr x post e
    rw [List.nil_append, e1, List.drop_left]
  rw [List.nil_append, h0, List.nil_append] at e
  rw [e]
  exact h1
theorem atI_zero {α : Type} (x : α) (xs : List α) : atI (x :: xs) 0 = some x := by
  unfold atI ixN
  rw [if_pos (by decide), if_pos (by simp only [List.length_cons]; omega)]
  rfl
theorem atI_one {α : Type} (x y : α) (xs : List α) : atI (x :: y :: xs) 1 = some y := by
  unfold atI ixN
  rw [if_pos (by decide), if_pos (by simp only [List.length_cons]; omega)]
  rfl
end DL
namespace DL
open PySem L2
section
variable {T : TL} {te tl : TE} {tt : TT} {ρ ρ1 : List Sl} {ds es : List PyData} {g : TG} {vs : List Nat} {K : PySem.W.Frag}
theorem el_lcTp (h : EE T tl ρ (.tuple ds) ρ1) (R : LcR (LcT T g tt te vs) ds ρ1 es ρ1) (hl : es.length ≤ 100000) : EL T (tLc (iTup K tl) g tt te vs) ρ es ρ1 := el_lcT h R hl
theorem el_lcLp (h : EE T tl ρ (.list ds) ρ1) (R : LcR (LcT T g tt te vs) ds ρ1 es ρ1) (hl : es.length ≤ 100000) : EL T (tLc (iList K tl) g tt te vs) ρ es ρ1 := el_lcL h R hl
theorem el_lcR1p {ta : TA} {n : Int} (h : EA T ta ρ [.int n] ρ1) (hn : -100000 ≤ n ∧ n ≤ 100000) (R : LcR (LcT T g tt te vs) ((ri 0 n.toNat).map PyData.int) ρ1 es ρ1) (hl : es.length ≤ 100000) : EL T (tLc (iRng1 ta) g tt te vs) ρ es ρ1 := el_lcR1 h hn (by rw [rng_ri]; exact R) hl
theorem el_lcR2p {ta : TA} {lo n : Int} (h : EA T ta ρ [.int lo, .int n] ρ1) (hlo : -100000 ≤ lo ∧ lo ≤ 100000) (hn : -100000 ≤ n ∧ n ≤ 100000) (R : LcR (LcT T g tt te vs) ((ri lo (n - lo).toNat).map PyData.int) ρ1 es ρ1) (hl : es.length ≤ 100000) : EL T (tLc (iRng2 ta) g tt te vs) ρ es ρ1 := el_lcR2 h hlo hn (by rw [rng_ri]; exact R) hl
theorem ss_forR1i {X : XK} {t : TS} {o : Out} {ta : TA} {n : Int} (h : EA T ta ρ [.int n] ρ1) (hn : -100000 ≤ n ∧ n ≤ 100000) (R : ForR (TurnD T X g t) ((ri 0 n.toNat).map PyData.int) ρ1 o) : SS T X (tFor (iRng1 ta) g t) ρ o := ss_forR1 h hn (by rw [rng_ri]; exact R)
theorem ss_forR2i {X : XK} {t : TS} {o : Out} {ta : TA} {lo n : Int} (h : EA T ta ρ [.int lo, .int n] ρ1) (hl : -100000 ≤ lo ∧ lo ≤ 100000) (hn : -100000 ≤ n ∧ n ≤ 100000) (R : ForR (TurnD T X g t) ((ri lo (n - lo).toNat).map PyData.int) ρ1 o) : SS T X (tFor (iRng2 ta) g t) ρ o := ss_forR2 h hl hn (by rw [rng_ri]; exact R)
end
end DL
namespace DL
open PySem L2 PyProof.Rows
open Evl (Ex)
/-! ### the script, the rounds, the law's outermost loop -/
/-- _law_cell(script, k): some int -/
def spCellU (K : PySem.W.Frag) : Sp := fun vs H Q _ => ∃ (a : Addr) (ns : List Int) (k : Int), vs = [.ref a, .int k] ∧ SqL K H a (ns.map V.int) ∧ ns.length ≤ 63 ∧ 0 ≤ k ∧ k ≤ 100 ∧ ∀ c H', Ex H H' → Q (.int c) H'
/-- _law_rounds(script, most): new lists [c, 0] in a new list -/
def spRounds (K : PySem.W.Frag) : Sp := fun vs H Q _ => ∃ (a : Addr) (ns : List Int) (m : Int), vs = [.ref a, .int m] ∧ SqL K H a (ns.map V.int) ∧ ns.length ≤ 63 ∧ 1 ≤ m ∧ m ≤ 10 ∧
  ∀ (p : Addr) (ps : List Addr) (H' : Hp), Ex H H' → H' p = some (.lst (ps.map V.ref)) → ps.Nodup → (∀ q ∈ ps, q ≠ p ∧ ∃ c : Int, H' q = some (.lst [.int c, .int 0])) → Q (.ref p) H'
theorem dp_ints {K : PySem.W.Frag} {H : Hp} : ∀ ns : List Int, DpAll K H (ns.map V.int) (ns.map PyData.int)
  | [] => .nil
  | n :: ns => .cons (.int n) (dp_ints ns)
/-- the law's promise -/
def spLaw (K : PySem.W.Frag) (T : TL) : Sp := fun vs H Q _ => ∃ (a : Addr) (ns : List Int), vs = [.ref a] ∧ SqL K H a (ns.map V.int) ∧ ns.length ≤ 63 ∧ LamX.Tabs T H ∧ ∀ H', Q (.bl true) H'
theorem law_reads {K : PySem.W.Frag} {T : TL} {N : List Str} {n : Nat} {m : Int} {tb : TS} {vs : List V} {H : Hp} {Q : VK} {E E' : XK} (hN : N.length = n + 2) (hm : 1 ≤ m ∧ m ≤ 10)
    (hb : ∀ (X : XK) (p : Addr) (c : Int), ∃ ρ', ρ'.length = n + 2 ∧ SS T X tb (.no :: .own (some p) [.int c, .int 0] :: List.replicate n .no) (.nx ρ')) (h : spLaw K T vs H Q E') :
    tSeq (tFor (iList K (tCall (spRounds K) [] E (tCons (tVar 0) (tCons (tC (.int m)) tNil)))) (gName 1) tb) (tRet (tC (.bl true))) { nx := fun _ H' => Q .non H', rt := Q } (L2.start N vs) H := by
  classical
  obtain ⟨a, ns, rfl, hs, hl, ht, k⟩ := h
  refine ⟨.ref a, rfl, a, ns, m, rfl, hs, hl, hm.1, hm.2, fun p ps H1 e1 hp hnd hq => ?_⟩
  refine ⟨p, rfl, ⟨_, SqL.of hp⟩, for_list (xs := ps.map V.ref) (fun i σ H' => σ.length = n + 2 ∧ H' p = some (.lst (ps.map V.ref)) ∧ (∀ (j : Nat) q, i ≤ j → ps[j]? = some q → ∃ c : Int, H' q = some (.lst [.int c, .int 0])) ∧ LamX.Tabs T H')
    ⟨by unfold L2.start; simp [hN], hp, fun j q _ hj => (hq q (List.mem_of_getElem? hj)).2, ht.ext e1⟩ (fun i σ H' _ h => SqL.of h.2.1) (fun i x σ H' hx h => ?_) (fun σ H' h => k H')⟩
  obtain ⟨hσ, hp', hrest, htab⟩ := h
  rw [List.getElem?_map] at hx
  cases hpi : ps[i]? with
  | none => rw [hpi] at hx; cases hx
  | some q =>
    rw [hpi] at hx
    cases hx
    obtain ⟨c, hc⟩ := hrest i q (Nat.le_refl _) hpi
    have qp : q ≠ p := (hq q (List.mem_of_getElem? hpi)).1
    obtain ⟨ρ', hlen, hss⟩ := hb (fun _ _ _ => False) q c
    have hlt : i < ps.length := (List.getElem?_eq_some_iff.mp hpi).1
    -- the frame of this turn: the list of rounds, the later rounds
    have later : ∀ (j : Nat) r, i < j → ps[j]? = some r → r ≠ q := fun j r hj hr z => by
      subst z
      have := (List.getElem?_inj hlt hnd).mp (hpi.trans hr.symm)
      omega
    refine hss (fun b => if b = p ∨ ∃ j, i < j ∧ ps[j]? = some b then H' b else none) (fun b => b = p ∨ ∃ j, i < j ∧ ps[j]? = some b) _ (fun _ => none) H' (σ.set 1 (some (.ref q))) ?_ ?_
    · refine ⟨fun b o hb => ?_, fun b o hb => ?_, fun b hb => ?_, fun _ _ => rfl, htab, fun _ b qs => ?_, fun _ _ z => (by cases z), by simp [hσ], fun j s hj => ?_, fun j k r q1 q2 es fs hjk h1 h2 => ?_⟩
      · by_cases z : b = p ∨ ∃ j, i < j ∧ ps[j]? = some b
        · rw [if_pos z] at hb; exact hb
        · rw [if_neg z] at hb; cases hb
      · cases hb
      · rw [if_pos hb]
        rcases hb with rfl | ⟨j, hj, hr⟩
        · rw [hp']; exact fun z => by cases z
        · obtain ⟨c', hc'⟩ := hrest j b (Nat.le_of_lt hj) hr
          rw [hc']; exact fun z => by cases z
      · by_cases z : b = p ∨ ∃ j, i < j ∧ ps[j]? = some b
        · rw [if_pos z]
          rcases z with rfl | ⟨j, hj, hr⟩
          · rw [hp']; exact fun z => by cases z
          · obtain ⟨c', hc'⟩ := hrest j b (Nat.le_of_lt hj) hr
            rw [hc']; exact fun z => by cases z
        · rw [if_neg z]; exact fun z => by cases z
      · cases j with
        | zero =>
          simp at hj
          subst hj
          exact ⟨(σ.set 1 (some (.ref q)))[0]'(by simp; omega), List.getElem?_eq_getElem _, trivial⟩
        | succ j =>
          cases j with
          | zero =>
            simp at hj
            subst hj
            refine ⟨some (.ref q), List.getElem?_set_self (by omega), q, [.int c, .int 0], rfl, rfl, ?_, hc, .cons (.int _) (.cons (.int _) .nil), fun a z => by cases z; rfl⟩
            show (if q = p ∨ ∃ j, i < j ∧ ps[j]? = some q then H' q else none) = none
            rw [if_neg]
            rintro (z | ⟨j, hj, hr⟩)
            · exact qp z
            · exact later j q hj hr rfl
          | succ j =>
            have hj' : (List.replicate n Sl.no)[j]? = some s := by simpa using hj
            rw [List.getElem?_replicate] at hj'
            split at hj'
            · rename_i hjn
              cases hj'
              exact ⟨(σ.set 1 (some (.ref q)))[j + 1 + 1]'(by simp; omega), List.getElem?_eq_getElem _, trivial⟩
            · cases hj'
      · have only : ∀ (u : Nat) qc gs, (Sl.no :: Sl.own (some q) [.int c, .int 0] :: List.replicate n Sl.no)[u]? = some (.own qc gs) → u = 1 := fun u qc gs hu => by
          cases u with
          | zero => simp at hu
          | succ u =>
            cases u with
            | zero => rfl
            | succ u =>
              have hu' : (List.replicate n Sl.no)[u]? = some (.own qc gs) := by simpa using hu
              rw [List.getElem?_replicate] at hu'
              split at hu' <;> cases hu'
        exact absurd ((only j q1 es h1).trans (only k q2 fs h2).symm) hjk
    · intro σ' B' H2 eB E2
      refine ⟨E2.ln.trans hlen, E2.fh p _ (by rw [if_pos (.inl rfl)]; exact hp'), fun j r hj hr => ?_, E2.tb⟩
      obtain ⟨c', hc'⟩ := hrest j r (by omega) hr
      exact ⟨c', E2.fh r _ (by rw [if_pos (.inr ⟨j, by omega, hr⟩)]; exact hc')⟩
end DL
namespace DL
theorem Weaker.all {ρ : List Sl} {n : Nat} (h : ρ.length = n) : Weaker ρ (List.replicate n .no) := ⟨by simp [h], fun i s hs => .inl (by rw [List.getElem?_replicate] at hs; split at hs <;> simp_all)⟩
end DL
namespace DL
open PySem L2 PyProof.Rows PySem.Spec
open Evl (Ex)
section
variable {X : Cx}
theorem cr_range1 : CallR X (.type "range") (fun vs H Q => ∃ j, vs = [V.int j] ∧ ∀ p, H p = none → Q (.ref p) (upd H p (.rng 0 j))) := by
  intro pins s σ H vs us Q I r h
  obtain ⟨j, rfl, q⟩ := h
  obtain ⟨u1, rfl, ri⟩ := vals1 r
  obtain ⟨t, rfl⟩ := ri
  refine call_range_1 ⟨.ref s.heap.objs.size, upd H s.heap.objs.size (.rng 0 j), I.laid (fun b o e => Heap.get?_push_of_some _ e) (Nat.le_refl _) ?_, rfl, q _ (I.hok.fresh (Nat.le_refl _))⟩
  exact ⟨_, _, _, Heap.get?_push_size _ rfl⟩
theorem op_notIn_rng : OpR X (compareOp .NotIn) (fun x y H Q => ∃ i a lo hi, x = V.int i ∧ y = V.ref a ∧ H a = some (.rng lo hi) ∧ Q (.bl (!decide (lo ≤ i ∧ i < hi))) H) := by
  intro pins s σ H x y v u Q I rx ry h
  obtain ⟨i, a, lo, hi, rfl, rfl, ha, q⟩ := h
  obtain ⟨k, rfl⟩ := rx
  obtain rfl : u = Value.ref a := ry
  obtain ⟨t1, t2, t3, ho⟩ := I.hok a _ ha
  show wpAny _ _ (do return Value.bool (!(← contains (Value.ref a) (Value.int i k)))) _ _ s
  refine wpAny_bind (wpAny_contains_slot (T := "range") ⟨_, ho, rfl⟩ F.slot_range_contains (call_meets F.slot_range_contains ⟨_, ho, rfl⟩ F.entry_range_contains (F.args_range_contains_2 _ _) (q_contains a lo hi i t1 t2 t3 k)
    ⟨ho, wpAny_truthy_bool (wpAny_pure ⟨.bl _, H, I, rfl, ?_⟩)⟩))
  rw [place1]
  exact q
end
/-- x not in range(n) -/
theorem ee_notInR {T : TL} {ta tb : TE} {ρ ρ1 ρ2 : List Sl} {i n : Int} (ha : EE T ta ρ (.int i) ρ1) (hb : EE T tb ρ1 (.int n) ρ2) :
    EE T (tOp (fun x y H Q => ∃ i a lo hi, x = V.int i ∧ y = V.ref a ∧ H a = some (.rng lo hi) ∧ Q (.bl (!decide (lo ≤ i ∧ i < hi))) H) ta (tCB (fun vs H Q => ∃ j, vs = [V.int j] ∧ ∀ p, H p = none → Q (.ref p) (upd H p (.rng 0 j))) (tCons tb tNil))) ρ (.bool (!decide (0 ≤ i ∧ i < n))) ρ2 := fun F W B H σ Q E k =>
  ha F W B H σ _ E fun v B1 H1 e1 E1 q1 => hb F W B1 H1 σ _ E1 fun u B2 H2 e2 E2 q2 => ⟨n, by rw [q2.inv_int], fun p hp => ⟨i, p, 0, n, q1.inv_int, rfl, upd_same, k _ B2 _ (e1.trans e2) (E2.grow (Grow.junk E2.bh hp)) (.bl _)⟩⟩
end DL
/-! the mirror: what the program's defs compute, over plain data -/
namespace U
open PySem L2 DL
def wholeB (d : PyData) (lo hi : Int) : Bool := match d with
  | .int i => decide (lo ≤ i) && decide (i ≤ hi)
  | _ => false
def pairB (d : PyData) (hi : Int) : Bool := match d with
  | .tuple [.int a, .int b] => (decide (0 ≤ a) && decide (a ≤ hi)) && ((decide (0 ≤ b) && decide (b ≤ hi)) && decide (a < b))
  | _ => false
abbrev Wb := Int × List (Int × Int)
/-- ascending -/
def ascB : List (Int × Int) → Bool
  | [] => true
  | [_] => true
  | p :: q :: r => ltPr p q && ascB (q :: r)
def lineB (n : Int) (p : Int × Int) : Bool := (decide (0 ≤ p.1) && decide (p.1 ≤ n - 1)) && ((decide (0 ≤ p.2) && decide (p.2 ≤ n - 1)) && decide (p.1 < p.2))
def okW (w : Wb) : Bool := (decide (1 ≤ w.1) && decide (w.1 ≤ 6)) && (w.2.all (lineB w.1) && ascB w.2)
/-- a datum as a pair, as pairs -/
def asP : PyData → Option (Int × Int)
  | .tuple [.int a, .int b] => some (a, b)
  | _ => none
def asPs : List PyData → Option (List (Int × Int))
  | [] => some []
  | d :: ds => match asP d, asPs ds with
    | some p, some ps => some (p :: ps)
    | _, _ => none
def asW : PyData → Option Wb
  | .tuple [.int n, .tuple ds] => (asPs ds).map fun ps => (n, ps)
  | _ => none
def webB (d : PyData) : Bool := match asW d with
  | some w => okW w
  | none => false
theorem asP_eq {d : PyData} {p : Int × Int} (h : asP d = some p) : d = eP p := by
  unfold asP at h
  split at h
  · cases h; rfl
  · cases h
theorem asP_eP (p : Int × Int) : asP (eP p) = some p := rfl
theorem asPs_eq : ∀ {ds : List PyData} {ps : List (Int × Int)}, asPs ds = some ps → ds = ps.map eP
  | [], ps, h => by cases h; rfl
  | d :: ds, ps, h => by
    unfold asPs at h
    split at h
    · rename_i p qs h1 h2
      cases h
      rw [asP_eq h1, asPs_eq h2]
      rfl
    · cases h
theorem asPs_map : ∀ (ps : List (Int × Int)), asPs (ps.map eP) = some ps
  | [] => rfl
  | p :: ps => by
    show (match asP (eP p), asPs (ps.map eP) with | some p, some ps => some (p :: ps) | _, _ => none) = _
    rw [asP_eP, asPs_map ps]
theorem asW_eq {d : PyData} {w : Wb} (h : asW d = some w) : d = eW w := by
  unfold asW at h
  split at h
  · rename_i n ds
    cases e : asPs ds with
    | none => rw [e] at h; cases h
    | some ps =>
      rw [e] at h
      cases h
      rw [asPs_eq e]
  · cases h
theorem asW_eW (w : Wb) : asW (eW w) = some w := by
  show (asPs (w.2.map eP)).map (fun ps => (w.1, ps)) = some w
  rw [asPs_map]
  rfl
theorem webB_eW (w : Wb) : webB (eW w) = okW w := by unfold webB; rw [asW_eW]
theorem webB_iff {d : PyData} : webB d = true ↔ ∃ w, d = eW w ∧ okW w = true := by
  unfold webB
  constructor
  · intro h
    cases e : asW d with
    | none => rw [e] at h; cases h
    | some w => rw [e] at h; exact ⟨w, asW_eq e, h⟩
  · rintro ⟨w, rfl, h⟩
    rw [asW_eW]
    exact h
/-- what an ok web keeps -/
structure GoodW (w : Wb) : Prop where
  lo : 1 ≤ w.1
  hi : w.1 ≤ 6
  line : ∀ p ∈ w.2, 0 ≤ p.1 ∧ p.1 < p.2 ∧ p.2 < w.1
  asc : ascB w.2 = true
theorem good_of {w : Wb} (h : okW w = true) : GoodW w := by
  unfold okW at h
  simp only [Bool.and_eq_true, decide_eq_true_eq, List.all_eq_true] at h
  refine ⟨h.1.1, h.1.2, fun p hp => ?_, h.2.2⟩
  have := h.2.1 p hp
  unfold lineB at this
  simp only [Bool.and_eq_true, decide_eq_true_eq] at this
  omega
theorem ok_of {w : Wb} (h : GoodW w) : okW w = true := by
  unfold okW
  simp only [Bool.and_eq_true, decide_eq_true_eq, List.all_eq_true]
  refine ⟨⟨h.lo, h.hi⟩, fun p hp => ?_, h.asc⟩
  have := h.line p hp
  unfold lineB
  simp only [Bool.and_eq_true, decide_eq_true_eq]
  omega
/-- a tuple of different ints from 0 to a top, at most so many -/
def asIs : List PyData → Option (List Int)
  | [] => some []
  | .int i :: ds => (asIs ds).map fun l => i :: l
  | _ :: _ => none
theorem asIs_eq : ∀ {ds : List PyData} {ns : List Int}, asIs ds = some ns → ds = ns.map PyData.int
  | [], ns, h => by cases h; rfl
  | d :: ds, ns, h => by
    cases d with
    | int i =>
      unfold asIs at h
      cases e : asIs ds with
      | none => rw [e] at h; cases h
      | some l => rw [e] at h; cases h; rw [asIs_eq e]; rfl
    | _ => simp [asIs] at h
theorem asIs_map : ∀ (ns : List Int), asIs (ns.map PyData.int) = some ns
  | [] => rfl
  | n :: ns => by show (asIs (ns.map PyData.int)).map _ = _; rw [asIs_map ns]; rfl
def rangeB (top : Int) (n : Int) : Bool := decide (0 ≤ n) && decide (n ≤ top)
def unlikeN (ns : List Int) (most top : Int) : Bool := decide ((ns.length : Int) ≤ most) && (ns.all (rangeB top) && decide (dcount ns = ns.length))
def unlikeB (d : PyData) (most top : Int) : Bool := match d with
  | .tuple ds => (match asIs ds with | some ns => unlikeN ns most top | none => false)
  | _ => false
def fitsN (w : Wb) (top : Int) (ns : List Int) : Bool := unlikeN ns w.1 top && decide ((ns.length : Int) = w.1)
def fitsB (w : Wb) (top : Int) (d : PyData) : Bool := match d with
  | .tuple ds => (match asIs ds with | some ns => fitsN w top ns | none => false)
  | _ => false
def topW (w : Wb) : Int := w.2.length
/-- the number at a place -/
def at0 (ns : List Int) (i : Int) : Int := ns.getD i.toNat 0
def linesN (w : Wb) (ns : List Int) : List Int := w.2.map fun p => iabs (at0 ns p.1 - at0 ns p.2)
def differN (w : Wb) (ns : List Int) : Bool := decide (dcount (linesN w ns) = w.2.length)
def flipN (w : Wb) (ns : List Int) : List Int := ns.map fun n => topW w - n
theorem unlikeB_eT (ns : List Int) (m t : Int) : unlikeB (eT ns) m t = unlikeN ns m t := by
  show (match asIs (ns.map PyData.int) with | some ns => unlikeN ns m t | none => false) = _
  rw [asIs_map]
theorem fitsB_eT (w : Wb) (t : Int) (ns : List Int) : fitsB w t (eT ns) = fitsN w t ns := by
  show (match asIs (ns.map PyData.int) with | some ns => fitsN w t ns | none => false) = _
  rw [asIs_map]
theorem fitsB_iff {w : Wb} {t : Int} {d : PyData} : fitsB w t d = true ↔ ∃ ns, d = eT ns ∧ fitsN w t ns = true := by
  constructor
  · intro h
    unfold fitsB at h
    split at h
    · rename_i ds
      cases e : asIs ds with
      | none => rw [e] at h; cases h
      | some ns => rw [e] at h; exact ⟨ns, by rw [asIs_eq e], h⟩
    · cases h
  · rintro ⟨ns, rfl, h⟩
    rw [fitsB_eT]; exact h
structure FitsN (w : Wb) (t : Int) (ns : List Int) : Prop where
  len : (ns.length : Int) = w.1
  rg : ∀ n ∈ ns, 0 ≤ n ∧ n ≤ t
  nd : ns.Nodup
theorem fits_of {w : Wb} {t : Int} {ns : List Int} (h : fitsN w t ns = true) : FitsN w t ns := by
  unfold fitsN unlikeN at h
  simp only [Bool.and_eq_true, decide_eq_true_eq, List.all_eq_true] at h
  refine ⟨h.2, fun n hn => ?_, (dcount_full ns).mp h.1.2.2⟩
  have := h.1.2.1 n hn
  unfold rangeB at this
  simpa using this
theorem of_fits {w : Wb} {t : Int} {ns : List Int} (h : FitsN w t ns) : fitsN w t ns = true := by
  unfold fitsN unlikeN
  simp only [Bool.and_eq_true, decide_eq_true_eq, List.all_eq_true]
  refine ⟨⟨by rw [h.len]; exact Int.le_refl _, fun n hn => ?_, (dcount_full ns).mpr h.nd⟩, h.len⟩
  unfold rangeB
  simpa using h.rg n hn
/-- places of a numbering of the right length -/
theorem at0_ok {ns : List Int} {i : Int} (h0 : 0 ≤ i) (h1 : i < ns.length) : atI (ns.map PyData.int) i = some (.int (at0 ns i)) := by
  obtain ⟨k, rfl⟩ := Int.eq_ofNat_of_zero_le h0
  have hk : k < ns.length := by omega
  unfold atI ixN at0
  rw [List.length_map, if_pos h0, if_pos (by omega)]
  show (ns.map PyData.int)[(k : Int).toNat]? = _
  simp [hk]
end U
namespace U
open PySem L2 DL
/-- not too long -/
def smallW (d : PyData) : Prop := ∀ x es, d = .tuple [x, .tuple es] → es.length ≤ 10000
theorem smallW_eW {w : Wb} (h : w.2.length ≤ 10000) : smallW (eW w) := fun x es e => by
  simp only [eW, PyData.tuple.injEq, List.cons.injEq, and_true] at e
  rw [← e.2]
  simpa using h
theorem webB_tup {d : PyData} (h : isTup d = false) : webB d = false := by cases d <;> first | rfl | cases h
theorem webB_len {xs : List PyData} (h : xs.length ≠ 2) : webB (.tuple xs) = false := by
  cases e : webB (.tuple xs) with
  | false => rfl
  | true =>
    obtain ⟨w, ew, _⟩ := webB_iff.mp e
    simp only [eW, PyData.tuple.injEq] at ew
    rw [ew] at h
    exact absurd rfl h
theorem webB_first {x y : PyData} (h : wholeB x 1 6 = false) : webB (.tuple [x, y]) = false := by
  cases e : webB (.tuple [x, y]) with
  | false => rfl
  | true =>
    obtain ⟨w, ew, ok⟩ := webB_iff.mp e
    simp only [eW, PyData.tuple.injEq, List.cons.injEq, and_true] at ew
    have g := good_of ok
    rw [ew.1] at h
    have : wholeB (.int w.1) 1 6 = true := by unfold wholeB; simp [g.lo, g.hi]
    rw [this] at h
    cases h
theorem webB_second {x y : PyData} (h : isTup y = false) : webB (.tuple [x, y]) = false := by
  cases e : webB (.tuple [x, y]) with
  | false => rfl
  | true =>
    obtain ⟨w, ew, ok⟩ := webB_iff.mp e
    simp only [eW, PyData.tuple.injEq, List.cons.injEq, and_true] at ew
    rw [ew.2] at h
    cases h
theorem pairB_lineB (n : Int) (p : Int × Int) : pairB (eP p) (n - 1) = lineB n p := rfl
theorem pairB_eq {d : PyData} {hi : Int} (h : pairB d hi = true) : ∃ p, d = eP p := by
  unfold pairB at h
  split at h
  · rename_i a b
    exact ⟨(a, b), rfl⟩
  · cases h
theorem pairs_of : ∀ {es : List PyData} {hi : Int}, (∀ d ∈ es, pairB d hi = true) → ∃ ps : List (Int × Int), es = ps.map eP
  | [], _, _ => ⟨[], rfl⟩
  | d :: es, hi, h => by
    obtain ⟨p, rfl⟩ := pairB_eq (h d List.mem_cons_self)
    obtain ⟨ps, rfl⟩ := pairs_of fun e he => h e (List.mem_cons_of_mem _ he)
    exact ⟨p :: ps, rfl⟩
theorem webB_pairs {n : Int} {es : List PyData} (h : (es.map fun d => pairB d (n - 1)).all id = false) : webB (.tuple [.int n, .tuple es]) = false := by
  cases e : webB (.tuple [.int n, .tuple es]) with
  | false => rfl
  | true =>
    obtain ⟨w, ew, ok⟩ := webB_iff.mp e
    simp only [eW, PyData.tuple.injEq, List.cons.injEq, and_true, PyData.int.injEq] at ew
    obtain ⟨e1, e2⟩ := ew
    have : (es.map fun d => pairB d (n - 1)).all id = true := by
      rw [e2, List.map_map, List.all_map, List.all_eq_true]
      intro p hp
      show pairB (eP p) (n - 1) = true
      rw [pairB_lineB, e1]
      unfold okW at ok
      simp only [Bool.and_eq_true, List.all_eq_true] at ok
      exact ok.2.1 p hp
    rw [this] at h
    cases h
theorem webB_last {n : Int} {ps : List (Int × Int)} (h : wholeB (.int n) 1 6 = true) (h2 : ∀ d ∈ ps.map eP, pairB d (n - 1) = true) : webB (.tuple [.int n, .tuple (ps.map eP)]) = ascB ps := by
  show webB (eW (n, ps)) = _
  rw [webB_eW]
  unfold okW wholeB at *
  have h3 : ps.all (lineB n) = true := by
    rw [List.all_eq_true]
    intro p hp
    have := h2 (eP p) (List.mem_map.mpr ⟨p, hp, rfl⟩)
    rw [pairB_lineB] at this
    exact this
  simp only [Bool.and_eq_true, decide_eq_true_eq] at h
  simp [h.1, h.2, h3]
theorem lexLt_two (p q : Int × Int) : HT.lexLt [p.1, p.2] [q.1, q.2] = ltPr p q := by
  unfold HT.lexLt HT.lexLt HT.lexLt ltPr
  by_cases h : p.1 = q.1
  · rw [if_pos h, if_pos h]
    by_cases h2 : p.2 = q.2
    · rw [if_pos h2, h2]; simp
    · rw [if_neg h2]
  · rw [if_neg h, if_neg h]
/-- the pair at a place -/
def pAt (ps : List (Int × Int)) (i : Nat) : Int × Int := ps.getD i (0, 0)
theorem pAt_ok {ps : List (Int × Int)} {i : Nat} (h : i < ps.length) : atI (ps.map eP) ((i : Nat) : Int) = some (eP (pAt ps i)) := by
  unfold atI ixN pAt
  rw [List.length_map, if_pos (by omega), if_pos (by omega)]
  show (ps.map eP)[((i : Nat) : Int).toNat]? = _
  simp [h]
theorem asc_is : ∀ (ps : List (Int × Int)), ((List.range (ps.length - 1)).map fun i => HT.lexLt [(pAt ps i).1, (pAt ps i).2] [(pAt ps (i + 1)).1, (pAt ps (i + 1)).2]).all id = ascB ps
  | [] => rfl
  | [_] => rfl
  | p :: q :: r => by
    have ih := asc_is (q :: r)
    have e : (p :: q :: r).length - 1 = ((q :: r).length - 1) + 1 := by simp
    rw [e, List.range_succ_eq_map, List.map_cons, List.map_map, List.all_cons]
    have e2 : ascB (p :: q :: r) = (ltPr p q && ascB (q :: r)) := rfl
    rw [e2, ← ih]
    congr 1
    exact lexLt_two p q
end U
namespace U
open PySem L2 DL
def toW (d : PyData) : Wb := (asW d).getD (0, [])
theorem toW_eW (w : Wb) : toW (eW w) = w := by unfold toW; rw [asW_eW]; rfl
def toN (d : PyData) : List Int := match d with
  | .tuple ds => (asIs ds).getD []
  | _ => []
theorem toN_eT (ns : List Int) : toN (eT ns) = ns := by show (asIs (ns.map PyData.int)).getD [] = ns; rw [asIs_map]; rfl
abbrev XA := Str → Addr
def needWeb (xa : XA) (d : PyData) : Res := if webB d = true then .ok .none else .ex (xa "InvalidWeb")
def needNum (xa : XA) (d e : PyData) : Res := if webB d = true then (if fitsB (toW d) (topW (toW d)) e = true then .ok .none else .ex (xa "InvalidNumbering")) else .ex (xa "InvalidWeb")
def lineNums (xa : XA) (d e : PyData) : Res := if webB d = true then (if fitsB (toW d) (topW (toW d)) e = true then .ok (eT (linesN (toW d) (toN e))) else .ex (xa "InvalidNumbering")) else .ex (xa "InvalidWeb")
def flipR (xa : XA) (d e : PyData) : Res := if webB d = true then (if fitsB (toW d) (topW (toW d)) e = true then .ok (eT (flipN (toW d) (toN e))) else .ex (xa "InvalidNumbering")) else .ex (xa "InvalidWeb")
def goodB (w : Wb) (e : PyData) : Bool := fitsB w (topW w) e && differN w (toN e)
def goodN (w : Wb) (ns : List Int) : Bool := fitsN w (topW w) ns && differN w ns
def goodR (xa : XA) (d e : PyData) : Res := if webB d = true then .ok (.bool (goodB (toW d) e)) else .ex (xa "InvalidWeb")
def numbR (xa : XA) (d e : PyData) : Res := if webB d = true then .ok (.bool (fitsB (toW d) (topW (toW d)) e)) else .ex (xa "InvalidWeb")
theorem goodB_eT (w : Wb) (ns : List Int) : goodB w (eT ns) = goodN w ns := by unfold goodB goodN; rw [fitsB_eT, toN_eT]
/-- both ends of all lines are places -/
def EndsW (w : Wb) (n : Nat) : Prop := ∀ p ∈ w.2, (0 ≤ p.1 ∧ p.1 < (n : Int)) ∧ (0 ≤ p.2 ∧ p.2 < (n : Int))
theorem ends_of {w : Wb} {t : Int} {ns : List Int} (g : GoodW w) (f : FitsN w t ns) : EndsW w ns.length := fun p hp => by
  have := g.line p hp
  rw [f.len]
  omega
def small (w : Wb) : Prop := w.2.length ≤ 10000
/-- the pairs of a turned copy -/
def ordP (a b : Int) : Int × Int := if a ≤ b then (a, b) else (b, a)
def copyP (w : Wb) (ns : List Int) (turn : Int) : List (Int × Int) :=
  sortP (w.2.map fun p => ordP ((at0 ns p.1 + turn) % (2 * topW w + 1)) ((at0 ns p.2 + turn) % (2 * topW w + 1)))
theorem sort_two (a b : Int) : sortI [a, b] = [(ordP a b).1, (ordP a b).2] := by
  show (if a ≤ b then [a, b] else [b, a]) = _
  unfold ordP
  split <;> rfl
end U
namespace U
open PySem L2 DL
theorem unlikeB_some {xs : List PyData} {ns : List Int} {m t : Int} (e : asIs xs = some ns) : unlikeB (.tuple xs) m t = unlikeN ns m t := by
  show (match asIs xs with | some ns => unlikeN ns m t | none => false) = _
  rw [e]
theorem unlikeB_none {xs : List PyData} {m t : Int} (e : asIs xs = none) : unlikeB (.tuple xs) m t = false := by
  show (match asIs xs with | some ns => unlikeN ns m t | none => false) = _
  rw [e]
end U
namespace U
open PySem L2 DL
def copyR (xa : XA) (d e t : PyData) : Res := if webB d = true then (if fitsB (toW d) (topW (toW d)) e = true then (if wholeB t 0 (2 * topW (toW d)) = true then (if differN (toW d) (toN e) = true then .ok (ePs (copyP (toW d) (toN e) (match t with | .int i => i | _ => 0))) else .ex (xa "NotGood")) else .ex (xa "InvalidNumber")) else .ex (xa "InvalidNumbering")) else .ex (xa "InvalidWeb")
/-- the turns whose copy has the pair -/
def turnsN (w : Wb) (ns : List Int) (p : Int × Int) : List Int := (ri 0 (2 * topW w + 1).toNat).filter fun t => (copyP w ns t).contains p
def zig (n : Int) : List Int := (ri 0 n.toNat).map fun k => if k % 2 = 0 then k / 2 else n - 1 - k / 2
def zigR (xa : XA) (d : PyData) : Res := if wholeB d 1 50 = true then .ok (eT (zig (match d with | .int i => i | _ => 0))) else .ex (xa "InvalidNumber")
/-! ### the law's draws -/
def M1 : Int := 340282366920938463463374607431768211507
def M2 : Int := 340282366920938463463374607431768211297
def M3 : Int := 18446744073709551557
def drawn (c k : Int) : Int :=
  let a := (c * 6364136223846793005 + (k + 1) * 1442695040888963407) % M1
  let b := a * a % M2
  let d := (b % M3 + 1) * (b / M3 + 1) * b
  d % M1
/-- the dice: the cell and how many were drawn -/
abbrev Dc := Int × Int
def eD (s : Dc) : List PyData := [.int s.1, .int s.2]
def rollV (s : Dc) (m : Int) : Int := if 1000000000000000000 ≤ s.1 then s.1 % m else drawn s.1 (s.2 + 1) / 8 % m
def rollS (s : Dc) (m : Int) : Dc := if 1000000000000000000 ≤ s.1 then (s.1 / m, s.2) else (s.1, s.2 + 1)
theorem rollV_lo (s : Dc) {m : Int} (h : 0 < m) : 0 ≤ rollV s m := by
  unfold rollV
  split
  · exact Int.emod_nonneg _ (by omega)
  · exact Int.emod_nonneg _ (by omega)
theorem rollV_hi (s : Dc) {m : Int} (h : 0 < m) : rollV s m < m := by
  unfold rollV
  split
  · exact Int.emod_lt_of_pos _ h
  · exact Int.emod_lt_of_pos _ h
/-- all pairs of so many places -/
def pairsFrom (n one : Int) : List (Int × Int) := (ri (one + 1) (n - (one + 1)).toNat).map fun o => (one, o)
def pairsN (n : Int) : List (Int × Int) := (ri 0 n.toNat).foldl (fun l one => l ++ pairsFrom n one) []
end U
namespace U
open PySem L2 DL
theorem ri_len (lo : Int) (n : Nat) : (ri lo n).length = n := by unfold ri; rw [List.length_map, List.length_range]
theorem mem_ri {lo : Int} {n : Nat} {x : Int} : x ∈ ri lo n ↔ lo ≤ x ∧ x < lo + n := by
  unfold ri
  rw [List.mem_map]
  constructor
  · rintro ⟨i, hi, rfl⟩
    have := List.mem_range.mp hi
    omega
  · rintro ⟨h1, h2⟩
    exact ⟨(x - lo).toNat, List.mem_range.mpr (by omega), by omega⟩
theorem pairsFrom_len (n one : Int) (h1 : n ≤ 100) (h2 : 0 ≤ one) : (pairsFrom n one).length ≤ 100 := by
  unfold pairsFrom
  rw [List.length_map, ri_len]
  omega
theorem fold_pairs_len {n : Int} (h1 : n ≤ 100) : ∀ (pre : List Int) (l : List (Int × Int)), (∀ one ∈ pre, 0 ≤ one) → (pre.foldl (fun l one => l ++ pairsFrom n one) l).length ≤ l.length + 100 * pre.length
  | [], l, _ => by simp
  | o :: pre, l, h => by
    have h2 := fold_pairs_len h1 pre (l ++ pairsFrom n o) fun one ho => h one (List.mem_cons_of_mem _ ho)
    have h3 := pairsFrom_len n o h1 (h o List.mem_cons_self)
    rw [List.foldl_cons]
    simp only [List.length_append, List.length_cons] at h2 ⊢
    omega
end U
namespace U
open PySem L2 DL
/-- the names of a law's loop: the script, the dice, then data in order -/
def lawS (p : Addr) (n : Nat) (D : Dc) (ds : List PyData) : List Sl := .no :: .own (some p) (eD D) :: (ds.map Sl.dat ++ List.replicate (n - ds.length) .no)
theorem webB_true {v : Wb} (h : okW v = true) : webB (eW v) = true := by rw [webB_eW]; exact h
end U
namespace U
open PySem L2 PyProof.Rows DL
theorem bt_mk {K : PySem.W.Frag} {h : Heap} {mg : Str → Option Value} (X : K.In h) (G : h.Ns mainGlobals mg) (z0 : PySem.W.nsIn K mainGlobals "len" = some none) (z1 : PySem.W.nsIn K mainGlobals "range" = some none) (z2 : PySem.W.nsIn K mainGlobals "tuple" = some none) (z3 : PySem.W.nsIn K mainGlobals "list" = some none) (z4 : PySem.W.nsIn K mainGlobals "isinstance" = some none) (z5 : PySem.W.nsIn K mainGlobals "all" = some none) (z6 : PySem.W.nsIn K mainGlobals "abs" = some none) (z7 : PySem.W.nsIn K mainGlobals "sorted" = some none) (z8 : PySem.W.nsIn K mainGlobals "set" = some none) (z9 : PySem.W.nsIn K mainGlobals "max" = some none) (z10 : PySem.W.nsIn K mainGlobals "min" = some none) (z11 : PySem.W.nsIn K mainGlobals "int" = some none) (z12 : PySem.W.nsIn K mainGlobals "bool" = some none) (z13 : PySem.W.nsIn K mainGlobals "str" = some none) (z14 : PySem.W.nsIn K mainGlobals "sum" = some none) (z15 : PySem.W.nsIn K mainGlobals "enumerate" = some none) (z16 : PySem.W.nsIn K mainGlobals "ValueError" = some none) : Bt mg :=
  ⟨PySem.W.mg_none_of X G z0, PySem.W.mg_none_of X G z1, PySem.W.mg_none_of X G z2, PySem.W.mg_none_of X G z3, PySem.W.mg_none_of X G z4, PySem.W.mg_none_of X G z5, PySem.W.mg_none_of X G z6, PySem.W.mg_none_of X G z7, PySem.W.mg_none_of X G z8, PySem.W.mg_none_of X G z9, PySem.W.mg_none_of X G z10, PySem.W.mg_none_of X G z11, PySem.W.mg_none_of X G z12, PySem.W.mg_none_of X G z13, PySem.W.mg_none_of X G z14, PySem.W.mg_none_of X G z15, PySem.W.mg_none_of X G z16⟩
theorem fn_mk {K : PySem.W.Frag} {h : Heap} {mg : Str → Option Value} {x : Str} {st : Stmt} {f : Addr} {oc : Value} {od an : Option Addr} {osl : Array (Option Value)} {kV doc pm cdv ct : Value} (X : K.In h) (G : h.Ns mainGlobals mg) (a : PySem.W.nsIn K mainGlobals x = some (some (.ref f)))
    (l : K.lookup f = some ⟨oc, od, .func (PySem.W.fnOf x x (defArgs st) (defBody st) (defScope st) .none kV doc pm an cdv ct), osl⟩) (c : PySem.W.codeIn K cdv x = true) (k : PySem.W.keepIn K (.ref f) = true) : Fn K mg x st := ⟨f, _, fun_mk l c k, PySem.W.mg_of X G a⟩
theorem xc_mk {K : PySem.W.Frag} {h : Heap} {mg : Str → Option Value} {x : Str} {C : Addr} (X : K.In h) (G : h.Ns mainGlobals mg) (a : PySem.W.nsIn K mainGlobals x = some (some (.ref C)))
    (q : PySem.W.excIn K C [.type "ValueError", .type "Exception", .type "BaseException", .type "object"] "ValueError.__new__" = true) (k : PySem.W.keepIn K (.ref C) = true) (b : PySem.W.subIn K (.ref C) (.type "BaseException") = some true) (t : PySem.W.typeIn K (.ref C) = some (.type "type")) : ∃ C, Xc K mg x C := ⟨C, PySem.W.mg_of X G a, q, k, b, t⟩
theorem xa_mk {K : PySem.W.Frag} {mg : Str → Option Value} (names : List Str) (h : ∀ x ∈ names, ∃ C, Xc K mg x C) : ∃ xa : Str → Addr, ∀ x ∈ names, Xc K mg x (xa x) := by
  classical
  refine ⟨fun x => if h' : x ∈ names then (h x h').choose else 0, fun x hx => ?_⟩
  show Xc K mg x (if h' : x ∈ names then (h x h').choose else 0)
  rw [dif_pos hx]
  exact (h x hx).choose_spec
end U
namespace U
open PySem
def topS (i : Nat) : Stmt := PySem.Challenge.pw_unlikelines_k16_whole_renamed.main.body.getD i (.Pass ⟨0, 0, 0, 0⟩)
end U
namespace U
open PySem L2 PyProof.Rows DL
open Evl (Ex)
open LamX (lamS_by)
section
variable {P : Program} {w : World} {K : PySem.W.Frag} {mg : Str → Option Value} {base : Heap} {xa : Str → Addr}
abbrev s_law_cell : Stmt := topS 44
theorem sc_law_cell : FnScope ["script", "k"] ["script", "k"] (defScope s_law_cell) := ⟨rfl, rfl, rfl, by decide +kernel, rfl, by decide +kernel, by decide +kernel⟩
theorem bd_law_cell : BindsAs "_law_cell" s_law_cell ["script", "k"] := fun _ _ _ _ _ _ us hl => match us, hl with | [_, _], _ => rfl

theorem eqv_nil (ns : List Int) : PyData.eqv (.list (ns.map PyData.int)) (.list []) = decide (ns = []) := eqv_eL ns []
theorem ok_law_cell (F : Fn K mg "_law_cell" s_law_cell) (B : Bt mg) : Cal P w K mg base 1 "_law_cell" ["script", "k"] (spCellU K) := by
  obtain ⟨f, fd, Fu, hm⟩ := F.ex
  refine ⟨f, fd, Fu.okN sc_law_cell (fun vs H Q E h => ?_) (fun cdv A outer s H vs Q E hr h => ?_), hm, Fu.kp, Fu.binds bd_law_cell⟩
  · obtain ⟨a, ns, k, rfl, _⟩ := h
    rfl
  · refine ⟨_, PSs.nox (pss_cons (ps_if (pt_cmpR (eqDK (K := K) rfl (hu64 hr)) (pv 0) (pe_lst pa_nil) (nomark _)) (pss_one (ps_ret (pe_op op_mul (pv 1) pe_int))) pss_nil)
      (pss_one (ps_ret (pe_op op_add (pe_ix (ixL (K := K) rfl) (pv 0) (pe_op op_mod (pv 1) (pe_callB (lenK (K := K) rfl) (by rfl) B.len bb_len (pa_cons (pv 0) pa_nil))) (fun _ _ => rfl)) (pe_op op_mul (pe_op op_fdiv (pv 1) (pe_callB (lenK (K := K) rfl) (by rfl) B.len bb_len (pa_cons (pv 0) pa_nil))) pe_int))))), ?_⟩
    obtain ⟨a, ns, k, rfl, hs, hl, h0, h1, q⟩ := h
    refine ⟨_, rfl, by decide, fun p hp => ?_⟩
    have e : Ex H (upd H p (.lst [])) := Ex.new hp
    have hs' := Evl.ex_l e hs
    refine ⟨.list (ns.map PyData.int), .list [], .lst hs' (dp_ints ns), .lst (SqL.of upd_same) .nil, sh_eL ns, sh_eL [], decide (ns = []), by rw [eqv_nil], ?_⟩
    by_cases hns : ns = []
    · rw [decide_eq_true hns]
      refine iteT ?_
      exact ⟨_, rfl, k, 7919, rfl, rfl, .inr (by decide), q _ _ e⟩
    · rw [decide_eq_false hns]
      refine iteF ?_
      have hpos : 0 < ns.length := List.length_pos_iff.mpr hns
      have hlen : (ns.map V.int).length = ns.length := List.length_map _
      have hm0 : 0 ≤ k % (ns.length : Int) := Int.emod_nonneg _ (by omega)
      have hm1 : k % (ns.length : Int) < ns.length := Int.emod_lt_of_pos _ (by omega)
      have hi : atI (ns.map V.int) (k % (ns.length : Int)) = some (V.int (ns.getD (k % (ns.length : Int)).toNat 0)) := by
        obtain ⟨j, hj⟩ := Int.eq_ofNat_of_zero_le hm0
        rw [hj]
        have hj' : j < ns.length := by omega
        unfold atI ixN
        rw [hlen, if_pos (by omega), if_pos (by omega)]
        show (ns.map V.int)[((j : Nat) : Int).toNat]? = _
        simp [hj']
      refine ⟨_, rfl, _, rfl, _, rfl, a, _, rfl, .inl hs', ?_⟩
      rw [hlen]
      refine ⟨k, ns.length, rfl, rfl, by omega, a, _, _, _, rfl, rfl, hs', hi, _, rfl, _, rfl, a, _, rfl, .inl hs', ?_⟩
      rw [hlen]
      exact ⟨k, ns.length, rfl, rfl, ⟨by omega, by omega⟩, _, 104729, rfl, rfl, .inr (by decide), _, _, rfl, rfl, q _ _ e⟩

end
end U
namespace U
open PySem L2 PyProof.Rows DL
open Evl (Ex)
open LamX (lamS_by)
section
variable {P : Program} {w : World} {K : PySem.W.Frag} {mg : Str → Option Value} {base : Heap} {xa : Str → Addr}
abbrev s_law_rounds : Stmt := topS 47
theorem sc_law_rounds : FnScope ["script", "most", "k"] ["script", "most"] (defScope s_law_rounds) := ⟨rfl, rfl, rfl, by decide +kernel, rfl, by decide +kernel, by decide +kernel⟩
theorem bd_law_rounds : BindsAs "_law_rounds" s_law_rounds ["script", "most"] := fun _ _ _ _ _ _ us hl => match us, hl with | [_, _], _ => rfl

theorem ok_law_rounds (F : Fn K mg "_law_rounds" s_law_rounds) (B : Bt mg) (c__law_cell : Cal P w K mg base 1 "_law_cell" ["script", "k"] (spCellU K)) : Cal P w K mg base 2 "_law_rounds" ["script", "most"] (spRounds K) := by
  obtain ⟨f, fd, Fu, hm⟩ := F.ex
  refine ⟨f, fd, Fu.okN sc_law_rounds (fun vs H Q E h => ?_) (fun cdv A outer s H vs Q E hr h => ?_), hm, Fu.kp, Fu.binds bd_law_rounds⟩
  · obtain ⟨a, ns, k, rfl, _⟩ := h
    rfl
  · refine ⟨_, PSs.nox (pss_one (ps_ret (pe_lc (own := [("k", 2)]) (g := (gName 2)) (tt := tYes) rfl sc_law_rounds.nd (pi_range1 (by rfl) B.range (pa_cons (pe_callB (call_max2 rfl) (by rfl) B.max bb_max (pa_cons pe_int (pa_cons (pe_callB (call_min2 rfl) (by rfl) B.min bb_min (pa_cons (pv 1) (pa_cons (pe_callB (lenK (K := K) rfl) (by rfl) B.len bb_len (pa_cons (pv 0) pa_nil)) pa_nil))) pa_nil))) pa_nil)) (blkOk_by (own := [("k", 2)]) (N := ["script", "most", "k"]) (sc := defScope s_law_rounds) (by decide +kernel)) (fun _ _ _ _ _ => (pg_name (i := 2) sc_law_rounds.nd rfl (Or.inl rfl))) (fun _ _ _ _ _ => pts_nil) (fun _ _ _ _ _ => (pe_lst (pa_cons (pe_cal c__law_cell (hr.mono (by decide)) (by rfl) (pa_cons (pv 0) (pa_cons (pv 2) pa_nil))) (pa_cons pe_int pa_nil))))))), ?_⟩
    obtain ⟨a, ns, m, rfl, hs, hl, h0, h1, q⟩ := h
    have hlen : (ns.map V.int).length = ns.length := List.length_map _
    refine ⟨_, rfl, _, rfl, a, _, rfl, .inl hs, m, _, rfl, 1, _, rfl, _, rfl, ?_⟩
    rw [hlen]
    generalize hn : (if (if (ns.length : Int) < m then (ns.length : Int) else m) > 1 then (if (ns.length : Int) < m then (ns.length : Int) else m) else 1) = n
    have hn1 : 1 ≤ n ∧ n ≤ 10 := by
      rw [← hn]
      split <;> split <;> omega
    refine ⟨by omega, by omega, fun D hD => ?_⟩
    refine lc_range (lo := 0) (n := n.toNat) (fun i H' => ∃ ps : List Addr, Ex H H' ∧ H' D = some (.lst (ps.map V.ref)) ∧ ps.Nodup ∧ ps.length = i ∧ ∀ r ∈ ps, r ≠ D ∧ ∃ c : Int, H' r = some (.lst [.int c, .int 0]))
      ⟨[], Ex.new hD, upd_same, List.nodup_nil, rfl, fun r hr => by cases hr⟩ (fun i H' hi p => ?_) (fun H' p => ?_)
    · obtain ⟨ps, e1, e2, e3, e4, e5⟩ := p
      refine ⟨wipe1_set _ _ _, ?_⟩
      refine ⟨_, rfl, _, rfl, a, ns, _, rfl, Evl.ex_l e1 hs, hl, by omega, by omega, fun c H2 ex2 => ⟨by show 2 ≤ sizeLine; decide, fun r hr => ⟨ps.map V.ref, ?_, ?_, ps ++ [r], ?_⟩⟩⟩
      · have hr' : r ≠ D := fun z => by rw [z, ex2 _ _ e2] at hr; cases hr
        rw [upd_ne (Ne.symm hr')]
        exact ex2 _ _ e2
      · rw [List.length_map, e4]
        exact sz_lt (by omega)
      · have hrD : r ≠ D := fun z => by rw [z, ex2 _ _ e2] at hr; cases hr
        have hrp : r ∉ ps := fun z => by
          obtain ⟨_, c', hc'⟩ := e5 r z
          rw [ex2 _ _ hc'] at hr
          cases hr
        have hDH : ∀ b o, H b = some o → b ≠ D := fun b o hb z => by rw [z, hD] at hb; cases hb
        refine ⟨fun b o hb => ?_, by rw [upd_same, List.map_append]; rfl, ?_, by simp [e4], fun r' hr' => ?_⟩
        · have h3 := ex2 _ _ (e1 b o hb)
          rw [upd_ne (hDH b o hb), upd_ne (ne_of_none h3 hr)]
          exact h3
        · refine List.nodup_append.mpr ⟨e3, by simp, fun x hx y hy => ?_⟩
          have : y = r := by simpa using hy
          rw [this]
          rintro rfl
          exact hrp hx
        · rcases List.mem_append.mp hr' with hr' | hr'
          · obtain ⟨n1, c', hc'⟩ := e5 r' hr'
            refine ⟨n1, c', ?_⟩
            have h3 := ex2 _ _ hc'
            rw [upd_ne n1, upd_ne (ne_of_none h3 hr)]
            exact h3
          · have : r' = r := by simpa using hr'
            subst this
            refine ⟨hrD, c, ?_⟩
            rw [upd_ne hrD, upd_same]
    · obtain ⟨ps, e1, e2, e3, e4, e5⟩ := p
      exact q D ps H' e1 e2 e3 e5

end
end U
namespace U
open PySem L2 PyProof.Rows DL
open Evl (Ex)
open LamX (lamS_by)
section
variable {P : Program} {w : World} {K : PySem.W.Frag} {mg : Str → Option Value} {base : Heap} {xa : Str → Addr}
abbrev s_law_drawn : Stmt := topS 45
theorem sc_law_drawn : FnScope ["cell", "k", "more"] ["cell", "k"] (defScope s_law_drawn) := ⟨rfl, rfl, rfl, by decide +kernel, rfl, by decide +kernel, by decide +kernel⟩
theorem bd_law_drawn : BindsAs "_law_drawn" s_law_drawn ["cell", "k"] := fun _ _ _ _ _ _ us hl => match us, hl with | [_, _], _ => rfl

def R_law_drawn : List PyData → Res → Prop := fun ds r => ∃ c k : Int, ds = [.int c, .int k] ∧ r = .ok (.int (drawn c k))
theorem natAbs_lt_of {i : Int} {n : Nat} (h0 : 0 ≤ i) (h : i < 2 ^ n) : i.natAbs < 2 ^ n := by
  have e : (i.natAbs : Int) = i := Int.natAbs_of_nonneg h0
  have h2 : ((2 ^ n : Nat) : Int) = (2 : Int) ^ n := by simp
  omega
theorem ok_law_drawn (F : Fn K mg "_law_drawn" s_law_drawn) (B : Bt mg) : Cal P w K mg base 1 "_law_drawn" ["cell", "k"] (spP R_law_drawn) :=
  calQ F sc_law_drawn bd_law_drawn (fun ds r ⟨_, _, e, _⟩ => by rw [e]; rfl) fun f cdv A outer s H E hr => by
  refine ⟨_, (pss_cons (ps_set (i := 2) sc_law_drawn.nd rfl (Or.inl rfl) (pe_op op_mod (pe_op op_add (pe_op op_mul (pv 0) pe_int) (pe_op op_mul (pe_op op_add (pv 1) pe_int) pe_int)) pe_int))
      (pss_cons (ps_set (i := 2) sc_law_drawn.nd rfl (Or.inl rfl) (pe_op op_mod (pe_op op_mulW (pv 2) (pv 2)) pe_int))
      (pss_cons (ps_set (i := 2) sc_law_drawn.nd rfl (Or.inl rfl) (pe_op op_mulW (pe_op op_mulW (pe_op op_add (pe_op op_mod (pv 2) pe_int) pe_int) (pe_op op_add (pe_op op_fdivW (pv 2) pe_int) pe_int)) (pv 2)))
      (pss_one (ps_ret (pe_op op_mod (pv 2) pe_int)))))), fun ds r ⟨c, k, e1, e2⟩ => ?_⟩
  subst e1 e2
  have p1 : (0 : Int) < 340282366920938463463374607431768211507 := by decide
  have p2 : (0 : Int) < 340282366920938463463374607431768211297 := by decide
  have p3 : (0 : Int) < 18446744073709551557 := by decide
  generalize ha : (c * 6364136223846793005 + (k + 1) * 1442695040888963407) % 340282366920938463463374607431768211507 = a
  have a0 : 0 ≤ a := by rw [← ha]; exact Int.emod_nonneg _ (by decide)
  have a1 : a < 2 ^ 129 := by rw [← ha]; exact Int.lt_trans (Int.emod_lt_of_pos _ p1) (by decide)
  have na := natAbs_lt_of a0 a1
  generalize hb : a * a % 340282366920938463463374607431768211297 = b
  have b0 : 0 ≤ b := by rw [← hb]; exact Int.emod_nonneg _ (by decide)
  have b1 : b < 340282366920938463463374607431768211297 := by rw [← hb]; exact Int.emod_lt_of_pos _ p2
  have nb := natAbs_lt_of (n := 128) b0 (Int.lt_trans b1 (by decide))
  have x0 : 0 ≤ b % 18446744073709551557 := Int.emod_nonneg _ (by decide)
  have x1 : b % 18446744073709551557 < 18446744073709551557 := Int.emod_lt_of_pos _ p3
  have nx := natAbs_lt_of (i := b % 18446744073709551557 + 1) (n := 65) (by omega) (by omega)
  have y0 : 0 ≤ b / 18446744073709551557 := Int.ediv_nonneg b0 (by decide)
  have y1 : b / 18446744073709551557 ≤ b := Int.ediv_le_self _ b0
  have ny := natAbs_lt_of (i := b / 18446744073709551557 + 1) (n := 129) (by omega) (by omega)
  have nxy := wide_lt nx ny
  have e : drawn c k = ((b % 18446744073709551557 + 1) * (b / 18446744073709551557 + 1) * b) % 340282366920938463463374607431768211507 := by
    unfold drawn M1 M2 M3
    simp only [ha, hb]
  rw [e]
  exact ⟨_, ss_seq (ss_set (EE.is (ee_op (ee_op (ee_op (ee_var rfl) ee_int (re_mulR (by decide))) (ee_op (ee_op (ee_var rfl) ee_int re_add) ee_int (re_mulR (by decide))) re_add) ee_int (re_mod p1)) (congrArg PyData.int ha)))
    (ss_seq (ss_set (EE.is (ee_op (ee_op (ee_var rfl) (ee_var rfl) (re_I (wide_mul na na (by decide) (by decide) (by decide)) fun _ => .int _)) ee_int (re_mod p2)) (congrArg PyData.int hb)))
    (ss_seq (ss_set (ee_op (ee_op (ee_op (ee_op (ee_var rfl) ee_int (re_mod p3)) ee_int re_add) (ee_op (ee_op (ee_var rfl) ee_int (re_I (wide_div p3 (natAbs_lt_of (n := 65) (by decide) (by decide)) (by decide) (by decide)) fun _ => .int _)) ee_int re_add) (re_I (wide_mul nx ny (by decide) (by decide) (by decide)) fun _ => .int _)) (ee_var rfl) (re_I (wide_mul nxy nb (by decide) (by decide) (by decide)) fun _ => .int _)))
    (ss_ret (ee_op (ee_var rfl) ee_int (re_mod p1))))), rfl⟩

end
end U
namespace U
open PySem L2 PyProof.Rows DL
open Evl (Ex)
open LamX (lamS_by)
section
variable {P : Program} {w : World} {K : PySem.W.Frag} {mg : Str → Option Value} {base : Heap} {xa : Str → Addr}
abbrev s_law_roll : Stmt := topS 46
theorem sc_law_roll : FnScope ["dice", "many", "told"] ["dice", "many"] (defScope s_law_roll) := ⟨rfl, rfl, rfl, by decide +kernel, rfl, by decide +kernel, by decide +kernel⟩
theorem bd_law_roll : BindsAs "_law_roll" s_law_roll ["dice", "many"] := fun _ _ _ _ _ _ us hl => match us, hl with | [_, _], _ => rfl

def R_law_roll : List PyData → List PyData → Res → List PyData → Prop := fun cs ds r cs' => ∃ (d : Dc) (m : Int), cs = eD d ∧ ds = [.int m] ∧ 0 < m ∧ m < 1000000 ∧ r = .ok (.int (rollV d m)) ∧ cs' = eD (rollS d m)
theorem ok_law_roll (F : Fn K mg "_law_roll" s_law_roll) (B : Bt mg) (c__law_drawn : Cal P w K mg base 1 "_law_drawn" ["cell", "k"] (spP R_law_drawn)) : Cal P w K mg base 2 "_law_roll" ["dice", "many"] (spO R_law_roll) :=
  calO F sc_law_roll bd_law_roll (fun cs ds r cs' ⟨_, _, _, e, _⟩ => by rw [e]; rfl) fun f cdv A outer s H E hr => by
  refine ⟨_, (pss_cons (ps_if (pt_cmpR op_ge (pe_ix (ixL (K := K) rfl) (pv 0) pe_int (fun _ _ => rfl)) (pe_op op_pow pe_int pe_int) (nomark _)) (pss_cons (ps_set (i := 2) sc_law_roll.nd rfl (Or.inl rfl) (pe_op op_mod (pe_ix (ixL (K := K) rfl) (pv 0) pe_int (fun _ _ => rfl)) (pv 1)))
      (pss_cons (ps_asg (pe_op op_fdiv (pe_ix (ixL (K := K) rfl) (pv 0) pe_int (fun _ _ => rfl)) (pv 1)) (pg_sub (pv 0) pe_int set_list))
      (pss_one (ps_ret (pv 2))))) pss_nil)
      (pss_cons (ps_asg (pe_op op_add (pe_ix (ixL (K := K) rfl) (pv 0) pe_int (fun _ _ => rfl)) pe_int) (pg_sub (pv 0) pe_int set_list))
      (pss_one (ps_ret (pe_op op_mod (pe_op op_fdiv (pe_cal c__law_drawn (hr.mono (by decide)) (by rfl) (pa_cons (pe_ix (ixL (K := K) rfl) (pv 0) pe_int (fun _ _ => rfl)) (pa_cons (pe_ix (ixL (K := K) rfl) (pv 0) pe_int (fun _ _ => rfl)) pa_nil))) pe_int) (pv 1)))))), fun p cs ds r cs' ⟨d, m, e1, e2, h0, h1, e3, e4⟩ => ?_⟩
  subst e1 e2 e3 e4
  have tt := et_test (T := []) (ee_op (ee_ixOwn (K := K) (ρ := slotsO p 3 (eD d) [.int m]) (i := 0) rfl (ee_int (i := 0)) rfl (d := .int d.1) rfl) (ee_op (ee_int (i := 10)) (ee_int (i := 18)) (re_I (C := CPow) (g := fun i j => .int (i ^ j.toNat)) ⟨by decide, by decide, by decide⟩ fun _ => .int _)) re_ge)
  by_cases hc : 1000000000000000000 ≤ d.1
  · have e1 : rollV d m = d.1 % m := by unfold rollV; rw [if_pos hc]
    have e2 : rollS d m = (d.1 / m, d.2) := by unfold rollS; rw [if_pos hc]
    rw [e1, e2]
    exact ⟨_, ss_seqR (ss_if (tt.is (decide_eq_true (show (10 : Int) ^ (18 : Int).toNat ≤ d.1 from hc))) (fun _ => ss_seq (ss_set (ee_op (ee_ixOwn rfl ee_int rfl (d := .int d.1) rfl) (ee_var rfl) (re_mod h0))) (ss_seq (ss_setOwn (n := 0) (ee_op (ee_ixOwn rfl ee_int rfl (d := .int d.1) rfl) (ee_var rfl) (re_fdiv h0 (by omega))) rfl ee_int rfl) (ss_ret (ee_var rfl)))) (fun h => by cases h)), rfl, rfl⟩
  · have e1 : rollV d m = drawn d.1 (d.2 + 1) / 8 % m := by unfold rollV; rw [if_neg hc]
    have e2 : rollS d m = (d.1, d.2 + 1) := by unfold rollS; rw [if_neg hc]
    rw [e1, e2]
    exact ⟨_, ss_seq (ss_if (tt.is (decide_eq_false (show ¬ (10 : Int) ^ (18 : Int).toNat ≤ d.1 from hc))) (fun h => by cases h) (fun _ => ss_next)) (ss_seq (ss_setOwn (n := 1) (ee_op (ee_ixOwn rfl ee_int rfl (d := .int d.2) rfl) ee_int re_add) rfl ee_int rfl) (ss_ret (ee_op (ee_op (ee_call (ea_2 (ee_ixOwn rfl ee_int rfl (d := .int d.1) rfl) (ee_ixOwn rfl ee_int rfl (d := .int (d.2 + 1)) rfl)) ⟨d.1, d.2 + 1, rfl, rfl⟩) ee_int (re_fdiv (by decide) (by decide))) (ee_var rfl) (re_mod h0)))), rfl, rfl⟩
theorem roll_ok {D : Dc} {m : Int} (h : 0 < m) (h2 : m < 1000000) : R_law_roll (eD D) [.int m] (.ok (.int (rollV D m))) (eD (rollS D m)) := ⟨D, m, rfl, rfl, h, h2, rfl, rfl⟩

end
end U
namespace U
open PySem L2 PyProof.Rows DL
open Evl (Ex)
open LamX (lamS_by)
section
variable {P : Program} {w : World} {K : PySem.W.Frag} {mg : Str → Option Value} {base : Heap} {xa : Str → Addr}
abbrev s_law_pairs : Stmt := topS 48
theorem sc_law_pairs : FnScope ["many", "found", "one", "other"] ["many"] (defScope s_law_pairs) := ⟨rfl, rfl, rfl, by decide +kernel, rfl, by decide +kernel, by decide +kernel⟩
theorem bd_law_pairs : BindsAs "_law_pairs" s_law_pairs ["many"] := fun _ _ _ _ _ _ us hl => match us, hl with | [_], _ => rfl

def R_law_pairs : List PyData → Res → Prop := fun ds r => ∃ n : Int, ds = [.int n] ∧ 0 ≤ n ∧ n ≤ 100 ∧ r = .ok (.list ((pairsN n).map eP))
theorem ok_law_pairs (F : Fn K mg "_law_pairs" s_law_pairs) (B : Bt mg) : Cal P w K mg base 1 "_law_pairs" ["many"] (spP R_law_pairs) :=
  calQ F sc_law_pairs bd_law_pairs (fun ds r ⟨_, e, _⟩ => by rw [e]; rfl) fun f cdv A outer s H E hr => by
  refine ⟨_, (pss_cons (ps_set (i := 1) sc_law_pairs.nd rfl (Or.inl rfl) (pe_lst pa_nil))
      (pss_cons (ps_for PassesOwn.never rfl (pi_range1 (by rfl) B.range (pa_cons (pv 0) pa_nil)) (pg_name (i := 2) sc_law_pairs.nd rfl (Or.inr rfl)) (pss_one (ps_set (i := 1) sc_law_pairs.nd rfl (Or.inl rfl) (pe_op op_cat (pv 1) (pe_lc (own := [("other", 3)]) (g := (gName 3)) (tt := tYes) rfl sc_law_pairs.nd (pi_range2 (by rfl) B.range (pa_cons (pe_op op_add (pv 2) pe_int) (pa_cons (pv 0) pa_nil))) (blkOk_by (own := [("other", 3)]) (N := ["many", "found", "one", "other"]) (sc := defScope s_law_pairs) (by decide +kernel)) (fun _ _ _ _ _ => (pg_name (i := 3) sc_law_pairs.nd rfl (Or.inl rfl))) (fun _ _ _ _ _ => pts_nil) (fun _ _ _ _ _ => (pe_tup (pa_cons (pv 2) (pa_cons (pv 3) pa_nil)))))))))
      (pss_one (ps_ret (pv 1))))), fun ds r ⟨n, e1, h0, h1, e2⟩ => ?_⟩
  subst e1 e2
  refine ⟨_, ss_seq (ss_set (el_lst ea_nil (by decide)).ee) (ss_seq (ss_forR1 (n := n) (ea_1 (ee_var rfl)) (by omega) (o := .nx [.dat (.int n), .dat (.list ((pairsN n).map eP)), .no, .no]) ?_) (ss_ret (ee_var rfl))), rfl⟩
  rw [rng_ri]
  refine forR_pre PyData.int (fun pre => [.dat (.int n), .dat (.list ((pre.foldl (fun l one => l ++ pairsFrom n one) []).map eP)), .no, .no]) (ri 0 n.toNat) fun pr one post e => ?_
  have hall : ∀ x ∈ pr ++ one :: post, 0 ≤ x ∧ x < n := fun x hx => by rw [← e] at hx; have := mem_ri.mp hx; omega
  have hone := hall one (by simp)
  have hpr : pr.length ≤ 100 := by have := congrArg List.length e; rw [ri_len] at this; simp at this; omega
  have hl := fold_pairs_len h1 pr [] fun x hx => (hall x (by simp [hx])).1
  have hl2 := pairsFrom_len n one h1 hone.1
  refine ⟨_, eg_name, ss_forget (ss_set (el_op (es := ((pr.foldl (fun l one => l ++ pairsFrom n one) []) ++ pairsFrom n one).map eP) (ee_var rfl) (el_lcR2p (lo := one + 1) (n := n) (es := (pairsFrom n one).map eP) (ea_2 (ee_op (ee_var rfl) ee_int re_add) (ee_var rfl)) (by omega) (by omega) ?_ (by rw [List.length_map]; omega)).ee ?_).ee) ?_⟩
  · unfold pairsFrom
    rw [List.map_map]
    exact lcr_map PyData.int (fun o => eP (one, o)) (ri (one + 1) (n - (one + 1)).toNat) fun o _ => lc1m (by intro _ _ h; cases h) (ee_tup (ea_2 (ee_var rfl) (ee_var rfl)) (by simp))
  · rw [List.map_append]
    exact rel_cat (by simp only [List.length_map]; rw [List.length_nil] at hl; omega)
  · rw [List.foldl_append]
    exact .same (.same (.no (.no .nil)))

end
end U
/-! MirW: the webs that the laws draw. -/
namespace U
open PySem L2 DL
def rowP (n : Int) : List (Int × Int) := (ri 0 (n - 1).toNat).map fun a => (a, a + 1)
def starP (n : Int) : List (Int × Int) := (ri 1 (n - 1).toNat).map fun a => ((0 : Int), a)
def ringP (n : Int) : List (Int × Int) := sortP (rowP n ++ [(0, n - 1)])
def pickD (m : Int) : Dc → List (Int × Int) → List (Int × Int) × Dc
  | D, [] => ([], D)
  | D, p :: ps => ((if rollV D m = 0 then [p] else []) ++ (pickD m (rollS D m) ps).1, (pickD m (rollS D m) ps).2)
/-- the i-th left out -/
def dropAt {α : Type} (l : List α) (i : Int) : List α := l.take i.toNat ++ l.drop (i.toNat + 1)
def dropStep (s : List (Int × Int) × Dc) : List (Int × Int) × Dc := (dropAt s.1 (rollV s.2 s.1.length), rollS s.2 s.1.length)
def dropsD (xs : List Int) (s : List (Int × Int) × Dc) : List (Int × Int) × Dc := xs.foldl (fun s _ => dropStep s) s
def anyWeb (D : Dc) (most lines : Int) : Wb × Dc :=
  let n := 1 + rollV D most
  let a := rollV (rollS D most) 7
  let D2 := rollS (rollS D most) 7
  if a = 0 then ((n, rowP n), D2)
  else if a = 1 then ((n, starP n), D2)
  else if a = 2 ∧ 2 < n then ((n, ringP n), D2)
  else
    let f := pickD (1 + rollV D2 3) (rollS D2 3) (pairsN n)
    let g := dropsD (ri 0 (max 0 ((f.1.length : Int) - lines)).toNat) f
    ((n, g.1), g.2)
theorem pick_sub (m : Int) : ∀ (ps : List (Int × Int)) (D : Dc), (pickD m D ps).1.Sublist ps
  | [], _ => .slnil
  | p :: ps, D => by
    have ih := pick_sub m ps (rollS D m)
    show ((if rollV D m = 0 then [p] else []) ++ (pickD m (rollS D m) ps).1).Sublist (p :: ps)
    split
    · exact ih.cons₂ p
    · exact ih.cons p
theorem dropAt_sub {α : Type} (l : List α) (i : Int) : (dropAt l i).Sublist l := by
  unfold dropAt
  have := List.Sublist.append (List.Sublist.refl (l.take i.toNat)) (List.drop_sublist_drop_left l (Nat.le_succ i.toNat))
  rw [List.take_append_drop] at this
  exact this
theorem dropAt_len {α : Type} (l : List α) {i : Int} (h0 : 0 ≤ i) (h1 : i < l.length) : (dropAt l i).length + 1 = l.length := by
  unfold dropAt
  rw [List.length_append, List.length_take, List.length_drop]
  omega
theorem drops_sub : ∀ (xs : List Int) (s : List (Int × Int) × Dc), (dropsD xs s).1.Sublist s.1
  | [], _ => List.Sublist.refl _
  | _ :: xs, s => (drops_sub xs (dropStep s)).trans (dropAt_sub _ _)
theorem drops_len : ∀ (xs : List Int) (s : List (Int × Int) × Dc), xs.length ≤ s.1.length → (dropsD xs s).1.length + xs.length = s.1.length
  | [], _, _ => rfl
  | x :: xs, s, h => by
    have hl : (dropStep s).1.length + 1 = s.1.length := dropAt_len s.1 (rollV_lo _ (by simp at h; omega)) (rollV_hi _ (by simp at h; omega))
    have := drops_len xs (dropStep s) (by simp at h; omega)
    show (dropsD xs (dropStep s)).1.length + (xs.length + 1) = _
    omega
theorem ascB_iff : ∀ (ps : List (Int × Int)), ascB ps = true → ps.Pairwise (fun p q => ltPr p q = true)
  | [], _ => .nil
  | [p], _ => .cons (fun _ h => by cases h) .nil
  | p :: q :: ps, h => by
    have h' : ltPr p q = true ∧ ascB (q :: ps) = true := by
      unfold ascB at h
      simpa only [Bool.and_eq_true] using h
    have ih := ascB_iff (q :: ps) h'.2
    refine .cons (fun r hr => ?_) ih
    rcases List.mem_cons.mp hr with rfl | hr
    · exact h'.1
    · have h2 := List.rel_of_pairwise_cons ih hr
      have h1 := h'.1
      unfold ltPr at h1 h2 ⊢
      split at h1 <;> split at h2 <;> split <;> simp only [decide_eq_true_eq] at * <;> omega
theorem ascB_of : ∀ (ps : List (Int × Int)), ps.Pairwise (fun p q => ltPr p q = true) → ascB ps = true
  | [], _ => rfl
  | [p], _ => rfl
  | p :: q :: ps, h => by
    unfold ascB
    simp only [Bool.and_eq_true]
    exact ⟨List.rel_of_pairwise_cons h List.mem_cons_self, ascB_of (q :: ps) h.tail⟩
theorem six {n : Int} (h1 : 1 ≤ n) (h6 : n ≤ 6) : n = 1 ∨ n = 2 ∨ n = 3 ∨ n = 4 ∨ n = 5 ∨ n = 6 := by omega
theorem row_ok : ∀ n ∈ [(1 : Int), 2, 3, 4, 5, 6], okW (n, rowP n) = true ∧ okW (n, starP n) = true ∧ (2 < n → okW (n, ringP n) = true ∧ (ringP n).length ≤ 6) ∧ okW (n, pairsN n) = true ∧ (rowP n).length ≤ 5 ∧ (starP n).length ≤ 5 ∧ (pairsN n).length ≤ 15 := by decide +kernel
theorem mem6 {n : Int} (h1 : 1 ≤ n) (h6 : n ≤ 6) : n ∈ [(1 : Int), 2, 3, 4, 5, 6] := by
  rcases six h1 h6 with h | h | h | h | h | h <;> subst h <;> decide
theorem sub_ok {n : Int} {ps qs : List (Int × Int)} (h : okW (n, qs) = true) (s : ps.Sublist qs) : okW (n, ps) = true := by
  have g := good_of h
  exact ok_of ⟨g.lo, g.hi, fun p hp => g.line p (s.subset hp), ascB_of _ ((ascB_iff _ g.asc).sublist s)⟩
/-- a drawn web is one; its places, its lines -/
theorem anyWeb_ok (D : Dc) {most lines : Int} (h1 : 1 ≤ most) (h6 : most ≤ 6) (hl : 0 ≤ lines) : okW (anyWeb D most lines).1 = true ∧ (anyWeb D most lines).1.1 ≤ most ∧ ((anyWeb D most lines).1.2.length : Int) ≤ max lines 6 ∧ (anyWeb D most lines).1.2.length ≤ 15 := by
  have hlo := rollV_lo D (m := most) (by omega)
  have hhi := rollV_hi D (m := most) (by omega)
  unfold anyWeb
  generalize hn : 1 + rollV D most = n
  have hn1 : 1 ≤ n ∧ n ≤ most := by omega
  obtain ⟨r1, r2, r3, r4, r5, r6, r7⟩ := row_ok n (mem6 hn1.1 (by omega))
  dsimp only
  split
  · exact ⟨r1, hn1.2, by show ((rowP n).length : Int) ≤ _; omega, by show (rowP n).length ≤ 15; omega⟩
  · split
    · exact ⟨r2, hn1.2, by show ((starP n).length : Int) ≤ _; omega, by show (starP n).length ≤ 15; omega⟩
    · split
      · rename_i h
        obtain ⟨a, b⟩ := r3 h.2
        exact ⟨a, hn1.2, by show ((ringP n).length : Int) ≤ _; omega, by show (ringP n).length ≤ 15; omega⟩
      · generalize hf : pickD (1 + rollV (rollS (rollS D most) 7) 3) (rollS (rollS (rollS D most) 7) 3) (pairsN n) = f
        have s1 : f.1.Sublist (pairsN n) := by rw [← hf]; exact pick_sub _ _ _
        have l1 := s1.length_le
        have s2 := drops_sub (ri 0 (max 0 ((f.1.length : Int) - lines)).toNat) f
        have l2 := drops_len (ri 0 (max 0 ((f.1.length : Int) - lines)).toNat) f (by rw [ri_len]; omega)
        rw [ri_len] at l2
        refine ⟨sub_ok r4 (s2.trans s1), hn1.2, ?_, ?_⟩
        · show (((dropsD (ri 0 (max 0 ((f.1.length : Int) - lines)).toNat) f).1.length : Nat) : Int) ≤ _
          omega
        · show (dropsD (ri 0 (max 0 ((f.1.length : Int) - lines)).toNat) f).1.length ≤ 15
          omega
theorem cut_to (l : List PyData) {i : Int} (h0 : 0 ≤ i) : cutD l none (some i) = l.take i.toNat := by
  unfold cutD
  show (l.drop 0).take ((if i < 0 then (i + (l.length : Int)).toNat else min i.toNat l.length) - 0) = _
  rw [if_neg (by omega), List.drop_zero, Nat.sub_zero]
  rcases Nat.le_total i.toNat l.length with h | h
  · rw [Nat.min_eq_left h]
  · rw [Nat.min_eq_right h, List.take_length, List.take_of_length_le h]
theorem cut_from (l : List PyData) {i : Int} (h0 : 0 ≤ i) : cutD l (some i) none = l.drop i.toNat := by
  unfold cutD
  show (l.drop (if i < 0 then (i + (l.length : Int)).toNat else min i.toNat l.length)).take (l.length - (if i < 0 then (i + (l.length : Int)).toNat else min i.toNat l.length)) = _
  rw [if_neg (by omega)]
  rcases Nat.le_total i.toNat l.length with h | h
  · rw [Nat.min_eq_left h]
    exact List.take_of_length_le (by rw [List.length_drop]; omega)
  · rw [Nat.min_eq_right h, List.drop_length, List.drop_of_length_le h]
    simp
theorem cut_drop {α : Type} (enc : α → PyData) (l : List α) {i : Int} (h0 : 0 ≤ i) : cutD (l.map enc) none (some i) ++ cutD (l.map enc) (some (i + 1)) none = (dropAt l i).map enc := by
  rw [cut_to _ h0, cut_from _ (by omega)]
  unfold dropAt
  rw [List.map_append, List.map_take, List.map_drop, show (i + 1).toNat = i.toNat + 1 by omega]
theorem dropsD_snoc (xs : List Int) (x : Int) (s : List (Int × Int) × Dc) : dropsD (xs ++ [x]) s = dropStep (dropsD xs s) := by
  unfold dropsD
  rw [List.foldl_append]; rfl
end U
namespace U
open PySem L2 PyProof.Rows DL
open Evl (Ex)
open LamX (lamS_by)
section
variable {P : Program} {w : World} {K : PySem.W.Frag} {mg : Str → Option Value} {base : Heap} {xa : Str → Addr}
abbrev s_law_any_web : Stmt := topS 49
theorem sc_law_any_web : FnScope ["dice", "most", "lines", "many", "act", "share", "found", "turn", "at", "pair"] ["dice", "most", "lines"] (defScope s_law_any_web) := ⟨rfl, rfl, rfl, by decide +kernel, rfl, by decide +kernel, by decide +kernel⟩
theorem bd_law_any_web : BindsAs "_law_any_web" s_law_any_web ["dice", "most", "lines"] := fun _ _ _ _ _ _ us hl => match us, hl with | [_, _, _], _ => rfl

def R_law_any_web : List PyData → List PyData → Res → List PyData → Prop := fun cs ds r cs' => ∃ (D : Dc) (most lines : Int), cs = eD D ∧ ds = [.int most, .int lines] ∧ 1 ≤ most ∧ most ≤ 6 ∧ 0 ≤ lines ∧ lines ≤ 100 ∧ r = .ok (eW (anyWeb D most lines).1) ∧ cs' = eD (anyWeb D most lines).2
theorem el_rowP {T : TL} {ρ : List Sl} {te : TE} {ta : TA} {vs : List Nat} {n : Int} (hn : 1 ≤ n ∧ n ≤ 6) (ha : EA T ta ρ [.int (n - 1)] ρ) (h : ∀ k : Int, LcT T (gName 8) tYes te vs (.int k) ρ [eP (k, k + 1)] ρ) : EL T (tLc (iRng1 ta) (gName 8) tYes te vs) ρ ((rowP n).map eP) ρ := by
  refine el_lcR1p (n := n - 1) ha (by omega) ?_ (by unfold rowP; rw [List.length_map, List.length_map, ri_len]; omega)
  unfold rowP
  rw [List.map_map]
  exact lcr_map PyData.int (fun k => eP (k, k + 1)) _ fun k _ => h k
theorem ok_law_any_web (F : Fn K mg "_law_any_web" s_law_any_web) (B : Bt mg) (c__law_roll : Cal P w K mg base 2 "_law_roll" ["dice", "many"] (spO R_law_roll)) (c__law_pairs : Cal P w K mg base 1 "_law_pairs" ["many"] (spP R_law_pairs)) : Cal P w K mg base 3 "_law_any_web" ["dice", "most", "lines"] (spO R_law_any_web) :=
  calO F sc_law_any_web bd_law_any_web (fun cs ds r cs' ⟨_, _, _, _, e, _⟩ => by rw [e]; rfl) fun f cdv A outer s H E hr => by
  refine ⟨_, (pss_cons (ps_par (i := 3) (j := 4) (by rfl) sc_law_any_web.nd rfl rfl (by decide) rfl rfl (pa_cons (pe_op op_add pe_int (pe_cal c__law_roll (hr.mono (by decide)) (by rfl) (pa_cons (pv 0) (pa_cons (pv 1) pa_nil)))) (pa_cons (pe_cal c__law_roll (hr.mono (by decide)) (by rfl) (pa_cons (pv 0) (pa_cons pe_int pa_nil))) pa_nil)) (by rfl))
      (pss_cons (ps_if (pt_cmpR op_eq (pv 4) pe_int (nomark _)) (pss_one (ps_ret (pe_tup (pa_cons (pv 3) (pa_cons (pe_callTy (tupK (K := K) rfl) (by rfl) B.tuple bb_tuple (pa_cons (pe_lc (own := [("at", 8)]) (g := (gName 8)) (tt := tYes) rfl sc_law_any_web.nd (pi_range1 (by rfl) B.range (pa_cons (pe_op op_sub (pv 3) pe_int) pa_nil)) (blkOk_by (own := [("at", 8)]) (N := ["dice", "most", "lines", "many", "act", "share", "found", "turn", "at", "pair"]) (sc := defScope s_law_any_web) (by decide +kernel)) (fun _ _ _ _ _ => (pg_name (i := 8) sc_law_any_web.nd rfl (Or.inl rfl))) (fun _ _ _ _ _ => pts_nil) (fun _ _ _ _ _ => (pe_tup (pa_cons (pv 8) (pa_cons (pe_op op_add (pv 8) pe_int) pa_nil))))) pa_nil)) pa_nil))))) pss_nil)
      (pss_cons (ps_if (pt_cmpR op_eq (pv 4) pe_int (nomark _)) (pss_one (ps_ret (pe_tup (pa_cons (pv 3) (pa_cons (pe_callTy (tupK (K := K) rfl) (by rfl) B.tuple bb_tuple (pa_cons (pe_lc (own := [("at", 8)]) (g := (gName 8)) (tt := tYes) rfl sc_law_any_web.nd (pi_range2 (by rfl) B.range (pa_cons pe_int (pa_cons (pv 3) pa_nil))) (blkOk_by (own := [("at", 8)]) (N := ["dice", "most", "lines", "many", "act", "share", "found", "turn", "at", "pair"]) (sc := defScope s_law_any_web) (by decide +kernel)) (fun _ _ _ _ _ => (pg_name (i := 8) sc_law_any_web.nd rfl (Or.inl rfl))) (fun _ _ _ _ _ => pts_nil) (fun _ _ _ _ _ => (pe_tup (pa_cons pe_int (pa_cons (pv 8) pa_nil))))) pa_nil)) pa_nil))))) pss_nil)
      (pss_cons (ps_if (PW.pt (pw_and (pt_cmpR op_eq (pv 4) pe_int (nomark _)) (pw_and1 (pt_cmpR op_gt (pv 3) pe_int (nomark _))))) (pss_one (ps_ret (pe_tup (pa_cons (pv 3) (pa_cons (pe_callTy (tupK (K := K) rfl) (by rfl) B.tuple bb_tuple (pa_cons (pe_callB (srtP (K := K) rfl) (by rfl) B.sorted bb_sorted (pa_cons (pe_op op_cat (pe_lc (own := [("at", 8)]) (g := (gName 8)) (tt := tYes) rfl sc_law_any_web.nd (pi_range1 (by rfl) B.range (pa_cons (pe_op op_sub (pv 3) pe_int) pa_nil)) (blkOk_by (own := [("at", 8)]) (N := ["dice", "most", "lines", "many", "act", "share", "found", "turn", "at", "pair"]) (sc := defScope s_law_any_web) (by decide +kernel)) (fun _ _ _ _ _ => (pg_name (i := 8) sc_law_any_web.nd rfl (Or.inl rfl))) (fun _ _ _ _ _ => pts_nil) (fun _ _ _ _ _ => (pe_tup (pa_cons (pv 8) (pa_cons (pe_op op_add (pv 8) pe_int) pa_nil))))) (pe_lst (pa_cons (pe_tup (pa_cons pe_int (pa_cons (pe_op op_sub (pv 3) pe_int) pa_nil))) pa_nil))) pa_nil)) pa_nil)) pa_nil))))) pss_nil)
      (pss_cons (ps_set (i := 5) sc_law_any_web.nd rfl (Or.inr rfl) (pe_op op_add pe_int (pe_cal c__law_roll (hr.mono (by decide)) (by rfl) (pa_cons (pv 0) (pa_cons pe_int pa_nil)))))
      (pss_cons (ps_setLc (i := 6) (own := [("pair", 9)]) (g := (gName 9)) rfl sc_law_any_web.nd rfl rfl (sw_true rfl rfl rfl (by decide +kernel)) (piL (K := K) rfl (pe_cal c__law_pairs (hr.mono (by decide)) (by rfl) (pa_cons (pv 3) pa_nil))) (blkOk_by (own := [("pair", 9)]) (N := ["dice", "most", "lines", "many", "act", "share", "found", "turn", "at", "pair"]) (sc := defScope s_law_any_web) (by decide +kernel)) (fun _ _ _ _ _ => (pg_name (i := 9) sc_law_any_web.nd rfl (Or.inl rfl))) (fun _ _ _ _ _ => (pts_one (pt_cmpR op_eq (pe_cal c__law_roll (hr.mono (by decide)) (by rfl) (pa_cons (pv 0) (pa_cons (pv 5) pa_nil))) pe_int (nomark _)))) (fun _ _ _ _ _ => (pv 9)))
      (pss_cons (ps_for PassesOwn.never rfl (pi_range1 (by rfl) B.range (pa_cons (pe_callB (call_max2 rfl) (by rfl) B.max bb_max (pa_cons pe_int (pa_cons (pe_op op_sub (pe_callB (lenK (K := K) rfl) (by rfl) B.len bb_len (pa_cons (pv 6) pa_nil)) (pv 2)) pa_nil))) pa_nil)) (pg_name (i := 7) sc_law_any_web.nd rfl (Or.inl rfl)) (pss_cons (ps_set (i := 8) sc_law_any_web.nd rfl (Or.inl rfl) (pe_cal c__law_roll (hr.mono (by decide)) (by rfl) (pa_cons (pv 0) (pa_cons (pe_callB (lenK (K := K) rfl) (by rfl) B.len bb_len (pa_cons (pv 6) pa_nil)) pa_nil))))
      (pss_one (ps_set (i := 6) sc_law_any_web.nd rfl (Or.inl rfl) (pe_op op_cat (pe_slice (slLK (K := K) rfl) (pv 6) po_none (po_some (pv 8))) (pe_slice (slLK (K := K) rfl) (pv 6) (po_some (pe_op op_add (pv 8) pe_int)) po_none))))))
      (pss_one (ps_ret (pe_tup (pa_cons (pv 3) (pa_cons (pe_callTy (tupK (K := K) rfl) (by rfl) B.tuple bb_tuple (pa_cons (pv 6) pa_nil)) pa_nil)))))))))))), fun p cs ds r cs' ⟨D, most, lines, e1, e2, h1, h6, l0, l1, e3, e4⟩ => ?_⟩
  subst e1 e2 e3 e4
  have hlo := rollV_lo D (m := most) (by omega)
  have hhi := rollV_hi D (m := most) (by omega)
  have hn : 1 ≤ 1 + rollV D most ∧ 1 + rollV D most ≤ 6 := by omega
  unfold anyWeb
  dsimp only
  have st := ss_par (T := []) (X := E) (i := 3) (j := 4) (ea_2 (ee_op (ee_int (i := 1)) (ee_callO (E := E0) (R := R_law_roll) (ρ := slotsO p 10 (eD D) [.int most, .int lines]) (i := 0) rfl (ea_1 (ee_var (i := 1) rfl)) rfl (roll_ok (m := most) (by omega) (by omega))) re_add) (ee_callO (E := E0) (R := R_law_roll) (i := 0) rfl (ea_1 (ee_int (i := 7))) rfl (roll_ok (m := 7) (by decide) (by decide))))
  generalize 1 + rollV D most = n at *
  generalize rollS D most = D1 at *
  have ha0 := rollV_lo D1 (m := 7) (by decide)
  generalize rollV D1 7 = a at *
  generalize rollS D1 7 = D2 at *
  have hρ : ((((slotsO p 10 (eD D) [.int most, .int lines]).set 0 (.own (some p) (eD D1))).set 0 (.own (some p) (eD D2))).set 3 (.dat (.int n))).set 4 (.dat (.int a)) = [.own (some p) (eD D2), .dat (.int most), .dat (.int lines), .dat (.int n), .dat (.int a), .no, .no, .no, .no, .no] := rfl
  by_cases c0 : a = 0
  · rw [if_pos c0]
    refine ⟨_, ss_seq st (ss_seqR (ss_if (ET.is (et_test (ee_op (ee_var rfl) ee_int re_eqI)) (decide_eq_true c0)) (fun _ => ss_ret (ee_tup (ea_2 (ee_var rfl) (ee_cb (ea_1 (el_rowP hn (ea_1 (ee_op (ee_var rfl) ee_int re_sub)) fun k => lc1m (by intro _ _ h; cases h) (ee_tup (ea_2 (ee_var rfl) (ee_op (ee_var rfl) ee_int re_add)) (by simp))).ee) rb_tupL)) (by simp))) (fun h => by cases h))), rfl, rfl⟩
  rw [if_neg c0]
  have n0 : ∀ {t u : TS}, SS [] E u [.own (some p) (eD D2), .dat (.int most), .dat (.int lines), .dat (.int n), .dat (.int a), .no, .no, .no, .no, .no] (.nx [.own (some p) (eD D2), .dat (.int most), .dat (.int lines), .dat (.int n), .dat (.int a), .no, .no, .no, .no, .no]) → SS [] E (tIfS (tTest (tOp rEq (tVar 4) (tC (.int 0)))) t u) [.own (some p) (eD D2), .dat (.int most), .dat (.int lines), .dat (.int n), .dat (.int a), .no, .no, .no, .no, .no] (.nx [.own (some p) (eD D2), .dat (.int most), .dat (.int lines), .dat (.int n), .dat (.int a), .no, .no, .no, .no, .no]) := fun {t u} hu => ss_if (ET.is (et_test (ee_op (ee_var (ρ := [.own (some p) (eD D2), .dat (.int most), .dat (.int lines), .dat (.int n), .dat (.int a), .no, .no, .no, .no, .no]) (i := 4) rfl) (ee_int (i := 0)) re_eqI)) (decide_eq_false c0)) (fun h => by cases h) (fun _ => hu)
  by_cases c1 : a = 1
  · rw [if_pos c1]
    refine ⟨_, ss_seq st (ss_seq (n0 ss_next) (ss_seqR (ss_if (ET.is (et_test (ee_op (ee_var rfl) ee_int re_eqI)) (decide_eq_true c1)) (fun _ => ss_ret (ee_tup (ea_2 (ee_var rfl) (ee_cb (ea_1 (el_lcR2p (lo := 1) (n := n) (es := (starP n).map eP) (ea_2 ee_int (ee_var rfl)) (by decide) (by omega) ?_ ?_).ee) rb_tupL)) (by simp))) (fun h => by cases h)))), rfl, rfl⟩
    · unfold starP
      rw [List.map_map]
      exact lcr_map PyData.int (fun k => eP (0, k)) _ fun k _ => lc1m (by intro _ _ h; cases h) (ee_tup (ea_2 ee_int (ee_var rfl)) (by simp))
    · unfold starP; rw [List.length_map, List.length_map, ri_len]; omega
  rw [if_neg c1]
  have n1 : ∀ {t u : TS}, SS [] E u [.own (some p) (eD D2), .dat (.int most), .dat (.int lines), .dat (.int n), .dat (.int a), .no, .no, .no, .no, .no] (.nx [.own (some p) (eD D2), .dat (.int most), .dat (.int lines), .dat (.int n), .dat (.int a), .no, .no, .no, .no, .no]) → SS [] E (tIfS (tTest (tOp rEq (tVar 4) (tC (.int 1)))) t u) [.own (some p) (eD D2), .dat (.int most), .dat (.int lines), .dat (.int n), .dat (.int a), .no, .no, .no, .no, .no] (.nx [.own (some p) (eD D2), .dat (.int most), .dat (.int lines), .dat (.int n), .dat (.int a), .no, .no, .no, .no, .no]) := fun {t u} hu => ss_if (ET.is (et_test (ee_op (ee_var (ρ := [.own (some p) (eD D2), .dat (.int most), .dat (.int lines), .dat (.int n), .dat (.int a), .no, .no, .no, .no, .no]) (i := 4) rfl) (ee_int (i := 1)) re_eqI)) (decide_eq_false c1)) (fun h => by cases h) (fun _ => hu)
  have t2 := et_and (T := []) (et_test (ee_op (ee_var (ρ := [.own (some p) (eD D2), .dat (.int most), .dat (.int lines), .dat (.int n), .dat (.int a), .no, .no, .no, .no, .no]) (i := 4) rfl) (ee_int (i := 2)) re_eqI)) (fun _ => et_test (ee_op (ee_var (i := 3) rfl) (ee_int (i := 2)) re_gt))
  by_cases c2 : a = 2 ∧ 2 < n
  · rw [if_pos c2]
    refine ⟨_, ss_seq st (ss_seq (n0 ss_next) (ss_seq (n1 ss_next) (ss_seqR (ss_if (ET.is t2 (by rw [decide_eq_true c2.1, decide_eq_true c2.2])) (fun _ => ss_ret (ee_tup (ea_2 (ee_var rfl) (ee_cb (ea_1 (el_cb (ea_1 (el_op (es := (rowP n ++ [(0, n - 1)]).map eP) (el_rowP hn (ea_1 (ee_op (ee_var rfl) ee_int re_sub)) fun k => lc1m (by intro _ _ h; cases h) (ee_tup (ea_2 (ee_var rfl) (ee_op (ee_var rfl) ee_int re_add)) (by simp))).ee (el_lst (ea_1 (ee_tup (ea_2 ee_int (ee_op (ee_var rfl) ee_int re_sub)) (by simp))) (by simp)).ee (by rw [List.map_append]; exact rel_cat (by rw [List.length_map]; unfold rowP; rw [List.length_map, ri_len]; simp; omega))).ee) rbl_sortedP).ee) rb_tupL)) (by simp))) (fun h => by cases h))))), rfl, rfl⟩
  rw [if_neg c2]
  have n2 : ∀ {t u : TS}, SS [] E u [.own (some p) (eD D2), .dat (.int most), .dat (.int lines), .dat (.int n), .dat (.int a), .no, .no, .no, .no, .no] (.nx [.own (some p) (eD D2), .dat (.int most), .dat (.int lines), .dat (.int n), .dat (.int a), .no, .no, .no, .no, .no]) → SS [] E (tIfS (tAnd (tTest (tOp rEq (tVar 4) (tC (.int 2)))) (tTest (tOp (rI0 fun i j => .bl (decide (j < i))) (tVar 3) (tC (.int 2))))) t u) [.own (some p) (eD D2), .dat (.int most), .dat (.int lines), .dat (.int n), .dat (.int a), .no, .no, .no, .no, .no] (.nx [.own (some p) (eD D2), .dat (.int most), .dat (.int lines), .dat (.int n), .dat (.int a), .no, .no, .no, .no, .no]) := fun {t u} hu => ss_if (ET.is t2 (show _ = false by
    cases hh : decide (a = 2) && decide (2 < n) with
    | false => rfl
    | true => rw [Bool.and_eq_true, decide_eq_true_eq, decide_eq_true_eq] at hh; exact absurd hh c2)) (fun h => by cases h) (fun _ => hu)
  have s0 := rollV_lo D2 (m := 3) (by decide)
  have s1 := rollV_hi D2 (m := 3) (by decide)
  have st5 := ss_set (T := []) (X := E) (i := 5) (ee_op (ee_int (i := 1)) (ee_callO (E := E0) (R := R_law_roll) (ρ := [.own (some p) (eD D2), .dat (.int most), .dat (.int lines), .dat (.int n), .dat (.int a), .no, .no, .no, .no, .no]) (i := 0) rfl (ea_1 (ee_int (i := 3))) rfl (roll_ok (m := 3) (by decide) (by decide))) re_add)
  generalize hsh : 1 + rollV D2 3 = m at *
  have hm : 1 ≤ m ∧ m ≤ 3 := by omega
  generalize rollS D2 3 = D3 at *
  have rest : ∀ (ps : List (Int × Int)) (D : Dc), LcR (LcT [] (gName 9) (tTest (tOp rEq (tCall (spO R_law_roll) [] E0 (tCons (tVar 0) (tCons (tVar 5) tNil))) (tC (.int 0)))) (tVar 9) [9]) (ps.map eP) [.own (some p) (eD D), .dat (.int most), .dat (.int lines), .dat (.int n), .dat (.int a), .dat (.int m), .no, .no, .no, .no]
      ((pickD m D ps).1.map eP) [.own (some p) (eD (pickD m D ps).2), .dat (.int most), .dat (.int lines), .dat (.int n), .dat (.int a), .dat (.int m), .no, .no, .no, .no] := by
    intro ps
    induction ps with
    | nil => exact fun D => .nil
    | cons q ps ih =>
      intro D
      have e : (pickD m D (q :: ps)).1.map eP = (if decide (rollV D m = 0) then [eP q] else []) ++ (pickD m (rollS D m) ps).1.map eP := by
        show ((if rollV D m = 0 then [q] else []) ++ (pickD m (rollS D m) ps).1).map eP = _
        rw [List.map_append]
        congr 1
        by_cases h : rollV D m = 0
        · rw [if_pos h, decide_eq_true h]; rfl
        · rw [if_neg h, decide_eq_false h]; rfl
      rw [e]
      exact .cons (lc1s (q := 0) (c' := eD (rollS D m)) (by intro _ _ h; cases h) (by decide) rfl (et_test (ee_op (ee_callO (i := 0) rfl (ea_1 (ee_var rfl)) rfl (roll_ok (by omega) (by omega))) ee_int re_eqI)) (fun _ => rfl) (fun _ => ee_var rfl)) (ih (rollS D m))
  have hpl : (pairsN n).length ≤ 15 := (row_ok n (mem6 hn.1 hn.2)).2.2.2.2.2.2
  have hfl := (pick_sub m (pairsN n) D3).length_le
  have hrest := rest (pairsN n) D3
  generalize pickD m D3 (pairsN n) = f at *
  refine ⟨.rt (eW (n, (dropsD (ri 0 (max 0 ((f.1.length : Int) - lines)).toNat) f).1)) [.own (some p) (eD (dropsD (ri 0 (max 0 ((f.1.length : Int) - lines)).toNat) f).2), .dat (.int most), .dat (.int lines), .dat (.int n), .dat (.int a), .dat (.int m), .dat (.list ((dropsD (ri 0 (max 0 ((f.1.length : Int) - lines)).toNat) f).1.map eP)), .no, .no, .no],
    ss_seq st (ss_seq (n0 ss_next) (ss_seq (n1 ss_next) (ss_seq (n2 ss_next) (ss_seq st5 (ss_seq (ss_set (el_lcL (ee_call (ea_1 (ee_var rfl)) ⟨n, rfl, by omega, by omega, rfl⟩) hrest (by rw [List.length_map]; omega)).ee) (ss_seq (ss_forR1i (n := max 0 ((f.1.length : Int) - lines)) (ρ1 := [.own (some p) (eD f.2), .dat (.int most), .dat (.int lines), .dat (.int n), .dat (.int a), .dat (.int m), .dat (.list (f.1.map eP)), .no, .no, .no]) (o := .nx [.own (some p) (eD (dropsD (ri 0 (max 0 ((f.1.length : Int) - lines)).toNat) f).2), .dat (.int most), .dat (.int lines), .dat (.int n), .dat (.int a), .dat (.int m), .dat (.list ((dropsD (ri 0 (max 0 ((f.1.length : Int) - lines)).toNat) f).1.map eP)), .no, .no, .no]) ?_ (by omega) ?_) (ss_ret (ee_tup (ea_2 (ee_var rfl) (ee_cb (ea_1 (ee_var rfl)) rb_tupL)) (by simp))))))))), rfl, rfl⟩
  · have := ea_1 (T := []) (ee_cb (ea_2 (ee_int (i := 0)) (ee_op (ee_cb (r := rLenQ K) (ea_1 (ee_var (ρ := [.own (some p) (eD f.2), .dat (.int most), .dat (.int lines), .dat (.int n), .dat (.int a), .dat (.int m), .dat (.list (f.1.map eP)), .no, .no, .no]) (i := 6) rfl)) rb_lenL) (ee_var (i := 2) rfl) re_sub)) rb_max2)
    rw [List.length_map] at this
    exact this
  refine forR_pre PyData.int (fun pre => [.own (some p) (eD (dropsD pre f).2), .dat (.int most), .dat (.int lines), .dat (.int n), .dat (.int a), .dat (.int m), .dat (.list ((dropsD pre f).1.map eP)), .no, .no, .no]) (ri 0 (max 0 ((f.1.length : Int) - lines)).toNat) fun pr x post e => ?_
  have hlen := congrArg List.length e
  rw [ri_len, List.length_append, List.length_cons] at hlen
  have hd := drops_len pr f (by omega)
  rw [dropsD_snoc]
  generalize dropsD pr f = g at *
  have hR : R_law_roll (eD g.2) [.int ((g.1.map eP).length : Nat)] (.ok (.int (rollV g.2 g.1.length))) (eD (rollS g.2 g.1.length)) := by
    rw [List.length_map]
    exact roll_ok (by omega) (by omega)
  have hv := rollV_lo g.2 (m := (g.1.length : Int)) (by omega)
  refine ⟨_, eg_name, ss_forget (ss_seq (ss_set (ee_callO (i := 0) rfl (ea_1 (ee_cb (ea_1 (ee_var rfl)) rb_lenL)) rfl hR)) (ss_set (el_op (es := (dropAt g.1 (rollV g.2 g.1.length)).map eP) (el_sl (ee_var rfl) eo_none (eo_some (ee_var rfl))).ee (el_sl (ee_var rfl) (eo_some (ee_op (ee_var rfl) ee_int re_add)) eo_none).ee ?_).ee)) ?_⟩
  · rw [← cut_drop eP g.1 hv]
    refine rel_cat ?_
    rw [← List.length_append, cut_drop eP g.1 hv, List.length_map]
    have := (dropAt_sub g.1 (rollV g.2 g.1.length)).length_le
    omega
  · exact .same (.same (.same (.same (.same (.same (.same (.no (.no (.no .nil)))))))))

end
end U
/-! RepT: tuple * int from 1 on. -/
namespace DL
open PySem PySem.Spec PyProof.Rows L2
open Evl (Ex)
theorem tuple_mul1 (l : Addr) (items : Array Value) (n : Nat) (dd : Option Addr) (sl : Array (Option Value)) (u : Tok) :
    Meets (Builtin.«tuple.__mul__» ⟨[.ref l, .int 1 u], []⟩) (fun _ R s => s.heap.get? l = some { cls := .type "tuple", dict := dd, data := .seq items n, slots := sl } ∧ R (.ok (.ret (Value.ref l))) s) :=
  .of_wp fun prog w A R s h => by
    obtain ⟨hp, g, d, tk, os⟩ := s
    obtain ⟨hl, h⟩ := h
    have f1 := AutoSeq1.idx_int
    have c0 : (decide ((1 : Int) < -(2 ^ 63)) || decide ((1 : Int) ≥ 2 ^ 63)) = false := by decide
    have c1 : (items.isEmpty || (1 : Int) == 1) = true := by simp
    wp_walk using wpAny_loadPart' hl
    repeat (first
      | (refine wpAny_ite_false (decide_eq_false (by rw [c0]; exact Bool.false_ne_true)) ?_; wp_walk using wpAny_loadPart' hl)
      | (refine wpAny_ite_true (decide_eq_true (by rw [c1])) ?_; wp_walk using wpAny_loadPart' hl))
    exact ⟨_, rfl, h⟩
def rRep1 (K : PySem.W.Frag) : R2 := fun x y H Q => ∃ l k xs, x = .ref l ∧ y = .int k ∧ SqT K H l xs ∧ xs ≠ [] ∧ 1 ≤ k ∧ k ≤ 1000 ∧ xs.length ≤ 1000 ∧ (k = 1 → Q (.ref l) H) ∧ (k ≠ 1 → ∀ p, H p = none → Q (.ref p) (upd H p (.tup (List.replicate k.toNat xs).flatten)))
theorem op_rep1 {X : Cx} : OpR X (binaryOp .Mult) (rRep1 X.K) := by
  intro pins s σ H x y v u Q I rx ry h
  obtain ⟨l, k, xs, rfl, rfl, hT, hne, h1, h2, hz, q1, q2⟩ := h
  by_cases hk : k = 1
  · subst hk
    have q := q1 rfl
    cases rx
    obtain ⟨t, rfl⟩ := ry
    obtain ⟨its, r, ⟨⟨cls, dd, data, sl⟩, ho, hc, n, hd⟩, hs⟩ := I.tuple hT
    simp only at hc hd
    subst hc hd
    exact wpAny_binaryOp_repeat_ref (T := "tuple") (U := "int") (by decide) ⟨_, ho, rfl⟩ (fun s' => typeIs_int s' 1 t) noFill_tuple_mul F.fills_int_mul F.slot_int_rmul repeat_tuple F.slot_int_index.lookup
      (call_meets F.slot_int_rmul (typeIs_int s 1 t) F.entry_int_rmul (F.args_int_rmul_2 _ _) (int_rmul_tuple 1 t l its.toArray n dd sl)
        ⟨ho, rfl, ⟨_, ho, rfl⟩, call_meets F.slot_tuple_mul ⟨_, ho, rfl⟩ F.entry_tuple_mul (F.args_tuple_mul_2 _ _) (tuple_mul1 l its.toArray n dd sl t) ⟨ho, .ref l, H, I, rfl, q⟩⟩)
  · exact op_repT pins s σ H (.ref l) (.int k) v u Q I rx ry ⟨l, k, xs, rfl, rfl, hT, hne, by omega, h2, hz, q2 hk⟩
theorem repK {X : Cx} {K : PySem.W.Frag} (h : X.K = K) : OpR X (binaryOp .Mult) (rRep1 K) := by subst h; exact op_rep1
theorem dt_flat {B : Hp} {vs : List V} {ds : List PyData} (q : DtAll B vs ds) : ∀ m : Nat, DtAll B (List.replicate m vs).flatten (List.replicate m ds).flatten
  | 0 => .nil
  | m + 1 => by
    rw [List.replicate_succ, List.replicate_succ, List.flatten_cons, List.flatten_cons]
    exact q.append (dt_flat q m)
theorem re_rep {K : PySem.W.Frag} {ds : List PyData} {k : Int} (hne : ds ≠ []) (h1 : 1 ≤ k) (h2 : k ≤ 1000) (hl : ds.length ≤ 1000) : RE (rRep1 K) (.tuple ds) (.int k) (.tuple (List.replicate k.toNat ds).flatten) := fun B H vx vy Q e bt q1 q2 kk => by
  obtain ⟨a, xs, rfl, hb, q⟩ := q1.inv_tup
  rw [q2.inv_int]
  refine ⟨a, k, xs, rfl, rfl, SqT.of (e _ _ hb), fun z => hne ?_, h1, h2, by rw [q.length]; exact hl, fun z => ?_, fun z p hp => ?_⟩
  · subst z; cases q; rfl
  · subst z
    refine kk _ B H (Grow.refl e) ?_
    rw [show (1 : Int).toNat = 1 from rfl, List.replicate_one, List.flatten_cons, List.flatten_nil, List.append_nil]
    exact .tup hb q
  · have g := Grow.new (o := .tup (List.replicate k.toNat xs).flatten) e hp (fun ps z => by cases z)
    exact kk _ _ _ g (.tup upd_same (dt_flat (q.mono g.bb) _))
end DL
/-! MirN: the numbers that the laws draw. -/
namespace U
open PySem L2 DL
abbrev Ns := (List Int × List Int) × Dc
def numStep (s : Ns) : Ns := ((s.1.1.filter fun y => !decide (y = at0 s.1.1 (rollV s.2 s.1.1.length)), s.1.2 ++ [at0 s.1.1 (rollV s.2 s.1.1.length)]), rollS s.2 s.1.1.length)
def numsD (xs : List Int) (s : Ns) : Ns := xs.foldl (fun s _ => numStep s) s
def anyNums (D : Dc) (many top : Int) : Ns := numsD (ri 0 (min many (top + 1)).toNat) ((ri 0 (top + 1).toNat, []), D)
theorem numsD_snoc (xs : List Int) (x : Int) (s : Ns) : numsD (xs ++ [x]) s = numStep (numsD xs s) := by
  unfold numsD
  rw [List.foldl_append]; rfl
theorem ri_nodup (lo : Int) (n : Nat) : (ri lo n).Nodup := by
  unfold ri
  refine List.pairwise_map.mpr (List.nodup_range.imp fun {a b} h z => h ?_)
  omega
theorem filter_ne_len {l : List Int} {x : Int} (nd : l.Nodup) (h : x ∈ l) : (l.filter fun y => !decide (y = x)).length + 1 = l.length := by
  have e : l.filter (fun y => !decide (y = x)) = l.erase x := by
    rw [nd.erase_eq_filter]
    congr 1
  rw [e, List.length_erase_of_mem h]
  have := List.length_pos_of_mem h
  omega
theorem at0_mem {l : List Int} {i : Int} (h0 : 0 ≤ i) (h1 : i < l.length) : at0 l i ∈ l := by
  unfold at0
  rw [List.getD_eq_getElem?_getD, List.getElem?_eq_getElem (by omega)]
  exact List.getElem_mem _
theorem nums_inv : ∀ (xs : List Int) (s : Ns), s.1.1.Nodup → xs.length ≤ s.1.1.length → (numsD xs s).1.1.Nodup ∧ (numsD xs s).1.1.length + xs.length = s.1.1.length ∧ (numsD xs s).1.2.length = s.1.2.length + xs.length
  | [], s, nd, _ => ⟨nd, rfl, rfl⟩
  | x :: xs, s, nd, h => by
    have hl : 0 < s.1.1.length := by simp at h; omega
    have hm := at0_mem (l := s.1.1) (rollV_lo s.2 (m := (s.1.1.length : Int)) (by omega)) (rollV_hi s.2 (by omega))
    have e := filter_ne_len nd hm
    obtain ⟨a, b, c⟩ := nums_inv xs (numStep s) (nd.filter _) (by show xs.length ≤ (List.filter _ _).length; simp at h; omega)
    refine ⟨a, ?_, ?_⟩
    · show (numsD xs (numStep s)).1.1.length + (xs.length + 1) = _
      have : (numStep s).1.1.length + 1 = s.1.1.length := e
      omega
    · show (numsD xs (numStep s)).1.2.length = _
      have : (numStep s).1.2.length = s.1.2.length + 1 := by show (s.1.2 ++ [_]).length = _; simp
      rw [c, this]; simp; omega
theorem anyNums_len (D : Dc) {many top : Int} (h0 : 0 ≤ many) (h1 : 0 ≤ top) : ((anyNums D many top).1.2.length : Int) = min many (top + 1) := by
  have := (nums_inv (ri 0 (min many (top + 1)).toNat) ((ri 0 (top + 1).toNat, []), D) (ri_nodup _ _) (by rw [ri_len]; show _ ≤ (ri 0 (top + 1).toNat).length; rw [ri_len]; omega)).2.2
  rw [ri_len] at this
  unfold anyNums
  rw [this]
  simp
  omega
def mapD (m : Int) : Dc → List Int → List Int × Dc
  | D, [] => ([], D)
  | D, _ :: xs => (rollV D m :: (mapD m (rollS D m) xs).1, (mapD m (rollS D m) xs).2)
theorem mapD_len (m : Int) : ∀ (xs : List Int) (D : Dc), (mapD m D xs).1.length = xs.length
  | [], _ => rfl
  | _ :: xs, D => by show (mapD m (rollS D m) xs).1.length + 1 = _; rw [mapD_len m xs]; rfl
/-- the law's own test -/
theorem lawNum_eq (w : Wb) (t : Int) (ns : List Int) : (if ((ns.length : Int) = w.1) ∧ dcount ns = ns.length then (ns.map fun n => decide (0 ≤ n) && decide (n ≤ t)).all id else false) = fitsN w t ns := by
  unfold fitsN unlikeN rangeB
  rw [List.all_map]
  by_cases h1 : (ns.length : Int) = w.1
  · by_cases h2 : dcount ns = ns.length
    · rw [if_pos ⟨h1, h2⟩, decide_eq_true h1, decide_eq_true h2, decide_eq_true (show (ns.length : Int) ≤ w.1 by omega)]
      simp only [Bool.true_and, Bool.and_true]
      rfl
    · rw [if_neg (fun z => h2 z.2), decide_eq_false h2]
      simp
  · rw [if_neg (fun z => h1 z.1), decide_eq_false h1]
    simp
theorem fitsB_len {w : Wb} {t : Int} {es : List PyData} (h : (es.length : Int) ≠ w.1) : fitsB w t (.tuple es) = false := by
  cases e : fitsB w t (.tuple es) with
  | false => rfl
  | true =>
    obtain ⟨ns, e1, f⟩ := fitsB_iff.mp e
    have := fits_of f
    cases e1
    unfold fitsN at f
    rw [Bool.and_eq_true, decide_eq_true_eq] at f
    rw [List.length_map] at h
    exact absurd f.2 h
theorem fitsB_none {w : Wb} {t : Int} {es : List PyData} (h : asIs es = none) : fitsB w t (.tuple es) = false := by
  cases e : fitsB w t (.tuple es) with
  | false => rfl
  | true =>
    obtain ⟨ns, e1, f⟩ := fitsB_iff.mp e
    cases e1
    rw [asIs_map] at h
    cases h
end U
/-! EnumT: for i, x in enumerate(tuple). -/
namespace DL
open PySem PySem.Spec PyProof.Rows L2
open Evl (Ex)
theorem meets_enum1 {v : Value} {o : Obj} {H : Heap → Prop} (B : Begins v o H) :
    Meets (Builtin.«enumerate.__new__» ⟨[.type "enumerate", v], []⟩) (fun _ R s => H s.heap ∧
      R (.ok (.ret (.ref (s.heap.push o).objs.size))) { s with heap := (s.heap.push o).push { cls := .type "enumerate", data := .fields #[.none, .bool false, .ref s.heap.objs.size, rawInt 0, .none, .none] } }) :=
  .of_wp fun prog w A R s h => by
    obtain ⟨hp, g, d, tk, os⟩ := s
    obtain ⟨h1, h⟩ := h
    have hsub := sub_enumerate
    have q1 : ∀ {A' : Around} {E : Value → Shared → Prop} {Q : Value → Shared → Prop}, Q (.ref hp.objs.size) ⟨hp.push o, g, d, tk, os⟩ → wpAny (model prog w) A' (pyIter v) Q E ⟨hp, g, d, tk, os⟩ := fun q => B.iter prog w _ _ ⟨hp, g, d, tk, os⟩ _ h1 q
    wp_walk using q1
    refine wpAny_stack_any fun st => wpAny_pure ?_
    split
    · rename_i c _ _ _ _ _
      cases (c == Value.type "enumerate") <;> (wp_walk using q1; exact ⟨_, rfl, h⟩)
    · wp_walk using q1
      exact ⟨_, rfl, h⟩
theorem call_enumT {prog : Program} {w : World} {A : Around} {E : Value → Shared → Prop} {s : Shared} {l : Addr} {items : Array Value} {Q : Value → Shared → Prop} (hL : s.heap.IsTuple l items)
    (h : ∀ h', IsEnum h' (s.heap.objs.size + 1) s.heap.objs.size 0 .none → h'.IsTupleIter s.heap.objs.size l 0 → (∀ b o, s.heap.get? b = some o → h'.get? b = some o) → Q (.ref (s.heap.objs.size + 1)) { s with heap := h' }) :
    wpAny (model prog w) A (call (.type "enumerate") [.ref l]) Q E s := by
  refine callType_new F.called_enumerate (by decide) (F.typeCall_enumerate_1 _) (F.newCall_enumerate_1 _) (fun obj => F.args_object_init_2 obj _) F.entry_enumerate_new (meets_enum1 (begins_tuple l items)) ⟨hL, ?_⟩
  have hz : (s.heap.push { cls := .type "tuple_iterator", data := .fields #[.ref l, .int 0 0] }).objs.size = s.heap.objs.size + 1 := Heap.size_push ..
  show _ ∧ _
  rw [hz]
  have he : IsEnum ((s.heap.push { cls := .type "tuple_iterator", data := .fields #[.ref l, .int 0 0] }).push { cls := .type "enumerate", data := .fields #[.none, .bool false, .ref s.heap.objs.size, rawInt 0, .none, .none] }) (s.heap.objs.size + 1) s.heap.objs.size 0 .none := by
    have := Heap.get?_push_size (s.heap.push { cls := .type "tuple_iterator", data := .fields #[.ref l, .int 0 0] }) (o := { cls := .type "enumerate", data := .fields #[.none, .bool false, .ref s.heap.objs.size, rawInt 0, .none, .none] }) rfl
    rw [hz] at this
    exact this
  exact ⟨⟨_, he, rfl⟩, h _ he ⟨_, Heap.get?_push_of_some _ (Heap.get?_push_size _ rfl), rfl, rfl⟩ fun b o x => Heap.get?_push_of_some _ (Heap.get?_push_of_some _ x)⟩
/-- the tuple at a: each item in a new pair -/
def IteT (K : PySem.W.Frag) (a : Addr) : It :=
  ⟨fun i H => ∃ (xs : List V) (x : V), SqT K H a xs ∧ xs[i]? = some x, fun i H v H' => ∃ T x, v = .ref T ∧ H T = none ∧ H' = upd H T (.tup [.int (i : Nat), x]) ∧ ∀ xs, SqT K H a xs → xs[i]? = some x, fun i H => ∃ xs : List V, SqT K H a xs ∧ xs.length ≤ i⟩
theorem turn_enumT {P : Program} {w : World} {K : PySem.W.Frag} {elts : List Expr} {kk : Nat} {tpos : Pos} (a e it : Addr) :
    Turn P w K (.Tuple elts kk tpos) (IteT K a) [e, it] e (fun i h => (∃ old, IsEnum h e it ((i : Nat) : Int) old) ∧ h.IsTupleIter it a i ∧ e ≠ it) where
  mem := by simp
  obj := fun i h st b hb => by
    obtain ⟨⟨old, he⟩, ⟨o, ho, hc, hd⟩, _⟩ := st
    have e' : b = e ∨ b = it := by simpa using hb
    rcases e' with z | z
    · rw [z]; exact ⟨_, he, fun v q => nomatch q⟩
    · rw [z]; exact ⟨o, ho, fun v q => by rw [hd] at q; cases q⟩
  keep := fun i h h' st k => let ⟨⟨old, he⟩, hi, hne⟩ := st; ⟨⟨old, k e (by simp) _ he⟩, hi.at fun o q => k it (by simp) o q, hne⟩
  item := by
    intro X hP hw hK hc i pins s σ H E I hf st hg
    subst hP hw hK
    obtain ⟨⟨old, he⟩, hit, hne⟩ := st
    obtain ⟨xs, x, hq, hx⟩ := hg
    obtain ⟨its, rv, p, hz⟩ := I.tuple hq
    obtain ⟨u, hu, ru⟩ := rv.get hx
    have hel : e < s.heap.objs.size := Heap.lt_size he
    have hil : it < s.heap.objs.size := by obtain ⟨_, q, _⟩ := hit; exact Heap.lt_size q
    have hTu : s.heap.IsTuple a its.toArray := by obtain ⟨o, ho, hc, n, hd⟩ := p; exact ⟨o, ho, hc, n, hd⟩
    have nea : e ≠ a := fun z => by
      obtain ⟨o, ho, hc, _⟩ := hTu
      rw [← z, show s.heap.get? e = some _ from he] at ho
      cases ho
      injection hc with z2
      exact absurd z2 (by decide)
    have nia : a ≠ it := fun z => by
      obtain ⟨o, ho, hc, _⟩ := hTu
      obtain ⟨o', ho', hc', _⟩ := hit
      rw [z, ho'] at ho
      cases ho
      rw [hc'] at hc
      injection hc with z2
      exact absurd z2 (by decide)
    refine wpAny_pyNext_enum_itemD (Draws.tuple (A := X.A.in1) (I.ok.hd hc) it a nia its.toArray) he ⟨hit, hTu⟩ (by have := (List.getElem?_eq_some_iff.mp hu).1; simpa using this) hne (by simp [hne, nea]) fun x' h' tk hP ho hst' hT hsz hk => ?_
    have ex : x' = u := by
      have hP : its.toArray[i]? = some x' := hP
      rw [List.getElem?_toArray, hu] at hP
      exact (Option.some.inj hP).symm
    subst ex
    refine ⟨_, rfl, wpAny_letOwnedTupleGo_enum (s := { s with heap := h', toks := tk + 1 }) ho fun h'' he' sb => ?_⟩
    have hT2 : h''.get? s.heap.objs.size = some { cls := .type "tuple", data := .seq #[.int i tk, x'] } := (sb.2 _ (Nat.ne_of_gt hel)).trans hT
    have new : ObjOk X.prog X.w (upd H s.heap.objs.size (.tup [.int (i : Nat), x])) h'' s.heap.objs.size (.tup [.int (i : Nat), x]) :=
      ⟨by show 2 ≤ sizeLine; decide, [.int i tk, x'], .cons ⟨_, rfl⟩ (.cons ru .nil), ⟨_, hT2, rfl, _, rfl⟩⟩
    have I1 : L2.Inv X pins σ (upd H s.heap.objs.size (.tup [.int (i : Nat), x])) { s with heap := h'', toks := tk + 1 } :=
      I.turnedNew (ch := [e, it]) (fun b ob hb q => (sb.2 b (fun z => hb (by simp [z]))).trans (hk b ob (fun z => hb (by simp [z])) (fun z => hb (by simp [z])) q)) hf (Nat.le_refl _) new
    refine ⟨.ref s.heap.objs.size, _, I1, rfl, ⟨_, x, rfl, I.hok.fresh (Nat.le_refl _), rfl, fun ys hy => by rw [I.tuple_inj hy hq]; exact hx⟩, ⟨⟨x', ?_⟩, hst'.1.at fun o q => (sb.2 it (Ne.symm hne)).trans q, hne⟩, fun b hb => ?_⟩
    · have e1 : ((i + 1 : Nat) : Int) = (i : Int) + 1 := by omega
      rw [e1]; exact he'
    · have hb' : b < s.heap.objs.size := by
        have e' : b = e ∨ b = it := by simpa using hb
        rcases e' with z | z
        · rw [z]; exact hel
        · rw [z]; exact hil
      rw [upd_ne (Nat.ne_of_lt hb')]
      exact (hf b hb).1
  done := by
    intro X hP hw hK hc i pins s σ H E I hf st hg
    subst hP hw hK
    obtain ⟨⟨old, he⟩, hit, hne⟩ := st
    obtain ⟨xs, hq, hx⟩ := hg
    obtain ⟨its, rv, p, hz⟩ := I.tuple hq
    obtain ⟨f0, f1, f2, f3, f4, f5⟩ := hf it (by simp)
    have hl := rv.length
    have hTu : s.heap.IsTuple a its.toArray := by obtain ⟨o, ho, hc, n, hd⟩ := p; exact ⟨o, ho, hc, n, hd⟩
    have hn : its.toArray[i]? = none := by simp; omega
    have D : Draws X.prog X.w X.A.in1 it [it, a] i (fun _ _ => True) (fun j h => j = i ∧ h.IsTupleIter it a i ∧ h.IsTuple a its.toArray) :=
      ⟨fun j h st => let ⟨o, ho, _⟩ := st.2.1; ⟨o, ho⟩, fun j h h' st hk => ⟨st.1, st.2.1.at fun o e => hk it (by simp) o e, st.2.2.at fun o e => hk a (by simp) o e⟩, fun j s Q E hi st _ => absurd st.1 (Nat.ne_of_lt hi), fun s Q E st hE => wpAny_nextOf_tuple_end (I.ok.hd hc) st.2.1 st.2.2 hn hE⟩
    exact wpAny_pyNext_enum_endD D he ⟨rfl, hit, hTu⟩ fun h' eb => ⟨rfl, I.turned (t' := s.toks) (fun b o hb q => eb b o hb q) f0 f1 f3 f4 f5⟩
  self := fun A i s Q E st h => let ⟨⟨_, he⟩, _⟩ := st; wpAny_pyIter_enum he h
def iEnumT (K : PySem.W.Frag) (ta : TA) : TI := fun σ H R => ta σ H fun vs H1 => ∃ a xs, vs = [.ref a] ∧ SqT K H1 a xs ∧ R (IteT K a) H1
theorem pi_enumT {X : Cx} {e : Expr} {ta : TA} {p pos tpos : Pos} {elts : List Expr} {kk : Nat} (hg : Gl X "enumerate") (hm : X.mg "enumerate" = none) (ha : PA X [e] ta) (hs : starEach [e] X.env = [(false, eval e X.env)] := by rfl) :
    PI X (.Tuple elts kk tpos) (.Call (.Name "enumerate" p) [e] [] pos) (iEnumT X.K ta) := by
  refine ⟨fun pins s σ H R I h => ?_⟩
  refine Call_ (ld_blt I hg hm boot_enumerate (PyProof.Rows.callWith_type1 (thn (ha.run pos pins s σ H _ I h) fun us s1 ⟨vs, H1, I1, r1, q1⟩ => ?_) hs rfl))
  obtain ⟨a, xs, ex, hq, q⟩ := q1
  subst ex
  have eu := Vals.ref1 r1
  subst eu
  obtain ⟨its, rv, p', hz⟩ := I1.tuple hq
  have hTu : s1.heap.IsTuple a its.toArray := by obtain ⟨o, ho, hc, n, hd⟩ := p'; exact ⟨o, ho, hc, n, hd⟩
  refine call_enumT hTu fun h' he hit hk => wpAny_pyIter_enum he ?_
  have I2 : L2.Inv X pins σ H1 { s1 with heap := h' } := I1.kept (t' := s1.toks) hk
  refine ⟨s1.heap.objs.size + 1, [s1.heap.objs.size + 1, s1.heap.objs.size], _, _, H1, rfl, I2, turn_enumT a (s1.heap.objs.size + 1) s1.heap.objs.size, ⟨⟨.none, he⟩, hit, Nat.succ_ne_self _⟩, fun b hb => ?_, q⟩
  have e' : b = s1.heap.objs.size + 1 ∨ b = s1.heap.objs.size := by simpa using hb
  have hle : s1.heap.objs.size ≤ b := by
    rcases e' with z | z
    · rw [z]; exact Nat.le_add_right _ _
    · rw [z]; exact Nat.le_refl _
  exact I1.fpOk hle (I1.hok.fresh hle)
theorem enumTK {X : Cx} {K : PySem.W.Frag} {e : Expr} {ta : TA} {p pos tpos : Pos} {elts : List Expr} {kk : Nat} (h : X.K = K) (hg : Gl X "enumerate") (hm : X.mg "enumerate" = none) (ha : PA X [e] ta) (hs : starEach [e] X.env = [(false, eval e X.env)] := by rfl) :
    PI X (.Tuple elts kk tpos) (.Call (.Name "enumerate" p) [e] [] pos) (iEnumT K ta) := by subst h; exact pi_enumT hg hm ha hs
end DL
namespace DL
open PySem L2
open Evl (Ex)
/-- the pairs that enumerate gives -/
def enumD (ds : List PyData) : List PyData := (List.range ds.length).map fun (i : Nat) => .tuple [.int (i : Nat), ds.getD i .none]
theorem enumD_len (ds : List PyData) : (enumD ds).length = ds.length := by unfold enumD; rw [List.length_map, List.length_range]
theorem enumD_get {ds : List PyData} {i : Nat} {d : PyData} (h : ds[i]? = some d) : (enumD ds)[i]? = some (.tuple [.int (i : Nat), d]) := by
  unfold enumD
  have hi := (List.getElem?_eq_some_iff.mp h).1
  rw [List.getElem?_map, List.getElem?_range hi]
  show some (PyData.tuple [PyData.int (i : Nat), ds.getD i PyData.none]) = some (PyData.tuple [PyData.int (i : Nat), d])
  rw [List.getD_eq_getElem?_getD, h]; rfl
theorem ss_forEnumT {T : TL} {X : XK} {K : PySem.W.Frag} {ta : TA} {g : TG} {t : TS} {ρ ρ1 : List Sl} {ds : List PyData} {o : Out} (h : EA T ta ρ [.tuple ds] ρ1) (R : ForR (TurnD T X g t) (enumD ds) ρ1 o) : SS T X (tFor (iEnumT K ta) g t) ρ o := fun F W D B H σ E k =>
  h F W B H σ _ E fun vs B1 H1 e1 E1 q1 => by
    cases q1 with
    | cons q1 qn =>
    cases qn
    obtain ⟨a, xs, f1, f2, q⟩ := q1.inv_tup
    subst f1
    have k1 := k.le e1
    have hlen := q.length
    refine ⟨a, xs, rfl, SqT.of (E1.bh _ _ f2), fun i m σ H => m = xs.length - i ∧ i ≤ xs.length ∧ ∃ B' ρi, Ex B1 B' ∧ Env T F W B' H σ ρi ∧ ForR (TurnD T X g t) ((enumD ds).drop i) ρi o, ⟨xs.length, by simp, Nat.zero_le _, B1, ρ1, Ex.refl _, E1, R⟩, ?_⟩
    rintro i m σ H ⟨rfl, hi, B', ρi, e, E', R'⟩
    have hs : SqT K H a xs := SqT.of (E'.bh _ _ (e _ _ f2))
    by_cases hlt : i < xs.length
    · refine .inr ⟨⟨xs, xs[i], hs, by simp [hlt]⟩, fun σ H => ∃ B' ρi, Ex B1 B' ∧ Env T F W B' H σ ρi ∧ ForR (TurnD T X g t) ((enumD ds).drop (i + 1)) ρi o, fun σ' H' p' => ⟨xs.length - (i + 1), by omega, rfl, hlt, p'⟩, fun x H' y => ?_⟩
      obtain ⟨Tn, x', rfl, hT, rfl, y⟩ := y
      have hx := y xs hs
      obtain ⟨d, hd, qd⟩ := q.getV hx
      have gr := Grow.new (o := .tup [.int (i : Nat), x']) E'.bh hT (fun ps z => by cases z)
      exact for_step k1 (enumD_get hd) (e.trans gr.bb) (E'.grow gr) (.tup upd_same (.cons (.int _) (.cons ((qd.mono e).mono gr.bb) .nil))) R'
    · have ei : i = xs.length := by omega
      subst ei
      exact .inl ⟨⟨xs, hs, Nat.le_refl _⟩, for_end k1 (by rw [enumD_len, hlen]; exact Nat.le_refl _) ⟨B', ρi, e, E', R'⟩⟩
end DL
/-! Hot: a list gone through while an exception is handled: sum, a comprehension over it. -/
namespace DL
open PySem PySem.Spec PyProof.Rows L2 HotX
section
variable {prog : Program} {w : World} {A : Around} {E : Value → Shared → Prop} {s : Shared}
theorem hot_not_iter {h : Heap} {x1 it l : Addr} {i : Nat} (hot : HotAt A x1 h) (hit : h.IsListIter it l i) : x1 ≠ it := by
  rintro rfl
  obtain ⟨_, o, vs, e, d, c⟩ := hot
  obtain ⟨o', e', _, d'⟩ := hit
  rw [e] at e'; cases e'
  rw [d] at d'; cases d'
  cases c
theorem next_list_end_hot {it l x1 : Addr} {i : Nat} {items : Array Value} {Q : Option Value → Shared → Prop} (hot : HotAt A x1 s.heap)
    (hit : s.heap.IsListIter it l i) (hl : s.heap.IsList l items) (hx : items[i]? = none)
    (hQ : ∀ h', (∀ b o, b ≠ it → s.heap.get? b = some o → h'.get? b = some o) → Q none { s with heap := h' }) : wpAny (model prog w) A (pyNext (.ref it)) Q E s := by
  have nx := hot_not_iter hot hit
  obtain ⟨hh, o1, vs1, h1, d1, c1⟩ := hot
  obtain ⟨o, ho, hc, hd⟩ := id hit
  obtain ⟨ol, hol, _, nl, hdl⟩ := hl
  unfold pyNext
  refine wpAny_bind (wpAny_attempt (wpAny_callSpecial?_slot (name := Str.ofString "__next__") hit.typeIs slot_listiter_next (wpAny_call_entry slot_listiter_next hit.typeIs entry_listiter_next ?_ (args_listiter_next _))))
  show wpAny _ _ (field (.ref it) 0 >>= _) _ _ s
  refine wpAny_bind (wpAny_field ho hd (x := .ref l) rfl ?_)
  show wpAny _ _ (if (Value.ref l == Value.none) = true then _ else _) _ _ s
  rw [if_neg (show ¬ ((Value.ref l == Value.none) = true) from Bool.false_ne_true)]
  show wpAny _ _ (field (.ref it) 1 >>= _) _ _ s
  refine wpAny_bind (wpAny_field ho hd (x := .int i 0) rfl ?_)
  show wpAny _ _ (seqItems? (.ref l) >>= _) _ _ s
  refine wpAny_bind (wpAny_seqItems hol hdl ?_)
  simp only [Int.toNat_natCast, hx]
  refine wpAny_bind (wpAny_rule (wpAny_bind (wpAny_setField ho hd (by simp) ?_)))
  show wpAny _ _ (newExc (.type "StopIteration") [] >>= _) _ _ _
  refine wpAny_bind ?_
  simp only [newExc, newTuple]
  refine wpAny_bind (wpAny_newObj_type ?_ (by size_fits))
  refine wpAny_bind (m := firstArgMember _ _) (wpAny_of_eq (a := Value.none) (by first | rfl | (simp only [firstArgMember]; rfl)) ?_)
  refine wpAny_newObj_type ?_ (by size_fits)
  have hu := (Heap.get?_update_other s.heap (Obj.mapFields (·.setIfInBounds 0 Value.none)) (Ne.symm nx)).trans h1
  refine raiseNew_hot ⟨hh, o1, vs1, Heap.get?_push_of_some _ (Heap.get?_push_of_some _ hu), d1, c1⟩ (Nat.ne_of_lt (Heap.lt_size (Heap.get?_push_of_some _ hu))) (Heap.get?_push_size _ rfl) rfl (by first | (simp; done) | (simp; omega) | (simp only [Array.size_append]; simp; omega)) ?_
  refine wpAny_bind (wpAny_isInstance (T := "StopIteration") (b := true) ⟨_, Heap.get?_update_self _ (Heap.get?_push_size _ rfl) rfl, rfl⟩ isSubtype_stop ?_)
  refine wpAny_pure (hQ _ fun b u nb e => ?_)
  have e1 := (Heap.get?_update_other s.heap (Obj.mapFields (·.setIfInBounds 0 Value.none)) (Ne.symm nb)).trans e
  rw [Heap.get?_update_other _ _ (Nat.ne_of_gt (Heap.lt_size (Heap.get?_push_of_some _ e1)))]
  exact Heap.get?_push_of_some _ (Heap.get?_push_of_some _ e1)
theorem HotAt.stay {x1 : Addr} {h h' : Heap} (a : HotAt A x1 h) (k : ∀ o, h.get? x1 = some o → h'.get? x1 = some o) : HotAt A x1 h' := by
  obtain ⟨hh, o, vs, e, d, c⟩ := a
  exact ⟨hh, o, vs, k o e, d, c⟩
theorem walks_hot {x1 I ax : Addr} (hne : ax ≠ I) (items : Array Value) :
    Walks prog w A I [I, ax, x1] [I] items.size (fun i v => items[i]? = some v) (fun i h => (h.IsListIter I ax i ∧ h.IsList ax items) ∧ HotAt A x1 h) where
  sub := fun b hb => by simp at hb; simp [hb]
  frame := fun _ _ _ st hk => ⟨⟨st.1.1.at fun o e => hk I (by simp) o e, st.1.2.at fun o e => hk ax (by simp) o e⟩, HotAt.stay st.2 fun o e => hk x1 (by simp) o e⟩
  item := fun i s Q E hi st hQ => by
    refine wpAny_pyNext_list_item st.1.1 st.1.2 (x := items[i]) (by simp [hi]) fun h' hit' hs' => ?_
    exact hQ _ h' s.toks (by simp [hi]) ⟨⟨hit', st.1.2.extBut hs'.extBut hne⟩, HotAt.stay st.2 fun o e => hs'.extBut _ o (hot_not_iter st.2 st.1.1) e⟩ fun b o hb e => hs'.extBut b o (fun h => hb (by simp [h])) e
  done := fun s Q E st hQ => next_list_end_hot st.2 st.1.1 st.1.2 (by simp) fun h' he' => hQ h' s.toks fun b o hb e => he' b o (fun h => hb (by simp [h])) e
  self := fun _ _ _ _ st hQ => wpAny_pyIter_listiter st.1.1 hQ
theorem sum_hot {l x1 : Addr} {its : List Value} {ns : List Int} {Q : Value → Shared → Prop} (hot : HotAt A x1 s.heap) (hl : s.heap.IsList l its.toArray) (hi : IntsAre its ns)
    (h : ∀ h' tk t', (∀ b o, s.heap.get? b = some o → h'.get? b = some o) → Q (.int ns.sum t') { s with heap := h', toks := tk }) : wpAny (model prog w) A (call (.builtin "sum") [.ref l]) Q E s := by
  obtain ⟨xs, e⟩ := hi.allInts.items
  have hn : numsOf (intItems xs).toList = ns := by rw [← e]; exact hi.numsOf
  rw [nums_intItems] at hn
  rw [e] at hl
  refine call_sum_walkG (iter_intList hl fun s₂ e st hfp hlI => ?_)
  subst e
  have hot1 : HotAt A.in1 x1 (s.heap.push { cls := .type "list_iterator", data := .fields #[.ref l, .int 0 0] }) := by
    obtain ⟨hh, o, vs, e, d, c⟩ := hot
    exact ⟨hh, o, vs, Heap.get?_push_of_some _ e, d, c⟩
  refine ⟨_, _, _, _, _, _, numAt xs, rfl, walks_hot (A := A.in1) (x1 := x1) hlI (intItems xs), ⟨st, hot1⟩, fun b hb => ?_, (fun _ _ => intItems_at), fun h' tk t' hk => ?_⟩
  · rcases List.mem_cons.mp hb with e | hb
    · exact hfp b (by simp [e])
    · rcases List.mem_cons.mp hb with e | hb
      · exact hfp b (by simp [e])
      · obtain ⟨_, o, vs, e, _⟩ := hot1
        have : b = x1 := by simpa using hb
        rw [this]; exact Heap.lt_size e
  · have := h h' tk t' (old_kept hk)
    have hl2 : ns.length ≤ xs.size := by rw [← hn]; simp
    rw [preSum_eq] at *
    simpa [intItems, hn, List.take_of_length_le hl2] using this
end
section
variable {X : Cx}
theorem cr_sumH (hc : L2H.HotC X) : CallR X (.builtin "sum") (rSum X.K) := by
  intro pins s σ H vs us Q I r h
  obtain ⟨a, ns, rfl, hs, q⟩ := h
  obtain ⟨its, rv, hl, _⟩ := I.list hs
  obtain ⟨x1, hot⟩ := hc.at I
  rw [Vals.ref1 r]
  exact sum_hot hot hl.isList rv.ints fun h' tk t' hk => ⟨.int _, H, I.kept hk, ⟨_, rfl⟩, q⟩
theorem laidN {pins : List (Addr × Obj)} {σ : L2.St} {H : Hp} {s : Shared} {h' : Heap} {a : Addr} {o : HO} {t' : Nat} (I : Inv X pins σ H s) (k : ∀ b u, s.heap.get? b = some u → h'.get? b = some u) (hp : s.heap.get? a = none) (new : ObjOk X.prog X.w (upd H a o) h' a o) :
    Inv X pins σ (upd H a o) { s with heap := h', toks := t' } := by
  have hn : H a = none := I.hok.gone hp
  have ne : ∀ b u, s.heap.get? b = some u → b ≠ a := fun b u e z => by rw [z, hp] at e; cases e
  refine I.un ⟨fun b u q _ _ _ => k b u q, fun b u q _ _ _ => ⟨u.slots, k b u q⟩, fun b u q n _ => by rw [upd_ne (ne b u q)]; exact n, fun b u q _ => ⟨u, k b u q⟩, fun b xs q => by rw [upd_ne (ne_of_none q hn)]; exact q, fun b u xs q => by rw [upd_ne (ne_of_none q hn)]; exact q, fun b ps q => ⟨#[], by rw [upd_ne (ne_of_none q hn), q]; simp⟩⟩ fun b u e => ?_
  by_cases hb : b = a
  · subst hb; rw [upd_same] at e; cases e; exact new
  · rw [upd_ne hb] at e
    exact (I.hok b u e).stay (fun c v _ q => k c v q) (fun c q => by rw [upd_ne (ne_of_none q hn)]; exact q) fun c xs q => by rw [upd_ne (ne_of_none q hn)]; exact q
theorem paired_flags : ∀ {bs : List Bool} {its ys : List Value}, Vals (bs.map V.bl) its → Paired (fun v z => ∃ (b : Bool) (t : Tok), v = .bool b ∧ z = .int (if b then 1 else 0) t) its ys → Vals (bs.map fun b => V.int (if b then 1 else 0)) ys
  | [], _, _, r, p => by cases r; cases p; exact .nil
  | b :: bs, _, _, r, p => by
    cases r with
    | cons r1 rr =>
      cases p with
      | cons p1 pp =>
        obtain ⟨b', t, e1, e2⟩ := p1
        rw [show _ = Value.bool b from r1] at e1
        cases e1
        exact .cons ⟨t, e2⟩ (paired_flags rr pp)
/-- [int(flag) for flag in flags], the flags bools -/
def tFlags (K : PySem.W.Frag) (i : Nat) : TE := fun σ H Q => ∃ (a : Addr) (bs : List Bool), σ[i]? = some (some (.ref a)) ∧ SqL K H a (bs.map V.bl) ∧ ∀ D, H D = none → Q (.ref D) (upd H D (.lst (bs.map fun b => V.int (if b then 1 else 0))))
theorem pe_flags {i : Nat} {x y : Str} {scope : Scope} {p1 p2 p3 p4 p5 pos : Pos} (hc : L2H.HotC X) (hN : X.N[i]? = some y) (hv : Vis X.env.scope y) (hint : X.mg "int" = none)
    (hfree : ∀ z ∈ scope.names, z.2 ≠ .free) (hcell : ∀ z ∈ scope.names, z.2 ≠ .cell) (hkind : scope.kind = .function) (hnames : ∀ z ∈ scope.names, z.2 = .local → scope.names.lookup z.1 = some .local) (hx : scope.names.lookup x = some .local)
    (hgi : scope.names.lookup ("int" : Str) = some .globalImplicit) (hd : (y == ("__debug__" : Str)) = false) (hcd : (y == ("__classdict__" : Str)) = false) (hdx : (x == ("__debug__" : Str)) = false) :
    PE X (.ListComp (.Call (.Name "int" p1) [.Name x p2] [] p3) [⟨.Name x p4, .Name y p5, [], 0⟩] scope pos) (tFlags X.K i) := by
  refine ⟨fun pins s σ H Q I h => ?_⟩
  obtain ⟨a, bs, h1, h2, q⟩ := h
  refine wpAny_ListComp_walk (fun _ => true) (fun v z => ∃ (b : Bool) (t : Tok), v = .bool b ∧ z = .int (if b then 1 else 0) t) hfree hcell hkind hnames hx
    (thn ((pe_var (pos := p5) hN hv hd hcd).run pins s σ H (fun v H1 => v = .ref a ∧ H1 = H) I ⟨.ref a, h1, rfl, rfl⟩) fun u s1 ⟨v, H1, I1, r1, q1⟩ => ?_)
  obtain ⟨ev0, eH⟩ := q1
  subst ev0
  rw [eH] at I1
  obtain rfl : u = Value.ref a := r1
  obtain ⟨its, rv, hl, hz⟩ := I1.list h2
  obtain ⟨x1, hot⟩ := hc.at I1
  have hlt : a < s1.heap.objs.size := by obtain ⟨_, e, _⟩ := hl.isList; exact Heap.lt_size e
  have hot1 : HotAt X.A x1 (s1.heap.push { cls := .type "list_iterator", data := .fields #[.ref a, .int 0 0] }) := HotAt.stay hot fun o e => Heap.get?_push_of_some _ e
  have I2 : L2.Inv X pins σ H { s1 with heap := s1.heap.push { cls := .type "list_iterator", data := .fields #[.ref a, .int 0 0] } } := I1.kept (t' := s1.toks) fun b o e => Heap.get?_push_of_some _ e
  have hlen := rv.length
  refine wpAny_pyIter_list hl.isList ⟨s1.heap.objs.size, _, _, its.toArray.size, _, _, rfl, walks_hot (x1 := x1) (Nat.ne_of_lt hlt) its.toArray, by rw [List.size_toArray, ← hlen]; exact hz, ⟨⟨⟨_, Heap.get?_push_size _ rfl, rfl, rfl⟩, hl.isList.push _⟩, hot1⟩, fun b hb => ?_, ⟨fun C i v s₃ m₃ E' _ _ _ _ _ => ?_, fun C i v s₃ m₃ E' hP _ hn hm hk htk => ?_⟩, fun D h' tk ys vs hD hli hpl hvl hP hF hk => ?_⟩
  · show b < (s1.heap.push _).objs.size
    rw [Heap.size_push]
    rcases List.mem_cons.mp hb with rfl | hb
    · exact Nat.lt_succ_self _
    · rcases List.mem_cons.mp hb with rfl | hb
      · exact Nat.lt_succ_of_lt hlt
      · have : b = x1 := by simpa using hb
        obtain ⟨_, o, vs, e, _⟩ := hot
        rw [this]; exact Nat.lt_succ_of_lt (Heap.lt_size e)
  · exact wpAny_tests_nil ⟨rfl, _, _, rfl, fun _ _ e => e⟩
  · have hi : ∃ b : Bool, v = .bool b := by
      have e : its[i]? = some v := by simpa using hP
      have hl3 : i < bs.length := by
        have := (List.getElem?_eq_some_iff.mp e).1
        rw [← hlen] at this; simpa using this
      obtain ⟨u', e', r'⟩ := rv.get (i := i) (x := V.bl bs[i]) (by rw [List.getElem?_map, List.getElem?_eq_getElem hl3]; rfl)
      rw [e] at e'; cases e'
      exact ⟨bs[i], r'⟩
    obtain ⟨b, rfl⟩ := hi
    obtain ⟨mb, g1, g2⟩ := I2.mod.blt
    have kk : ∀ b o, X.base.get? b = some o → s₃.heap.get? b = some o := fun b o e => hk b o (fun z => by
      have hb := Heap.lt_size (I1.bk b o e)
      have z : b = s1.heap.objs.size := by simpa using z
      rw [z] at hb
      exact Nat.lt_irrefl _ hb) (I2.bk b o e)
    refine Call_ (Calls.Name_function_global (env := compEnv scope C X.env) hkind hgi (Calls.loadGlobal_builtin (env := compEnv scope C X.env) (by show s₃.heap.Ns X.env.globals _; rw [I2.ok.glob]; exact I2.mod.glob.keeps kk) hint (by show s₃.heap.Ns X.env.builtins _; rw [I2.ok.blt]; exact g1.keeps kk) ((g2 "int" (by decide)).trans rfl) ?_))
    refine PyProof.Rows.callWith_type1 (Calls.spliced_cons (wpAny_Name (wpAny_loadName_local (env := compEnv scope C X.env) hkind hx hn hm ?_) hdx))
    refine Calls.spliced_nil (call_int_bool ⟨⟨b, _, rfl, rfl⟩, _, _, rfl, fun _ _ e => e⟩)
  · have nD : s1.heap.get? D = none := by
      cases e : s1.heap.get? D with
      | none => rfl
      | some o => rw [show (s1.heap.push { cls := .type "list_iterator", data := .fields #[.ref a, .int 0 0] }).get? D = some o from Heap.get?_push_of_some _ e] at hD; cases hD
    have hD2 : H D = none := I1.hok.gone nD
    have ev : vs = its := by
      refine List.ext_getElem? fun j => ?_
      cases e : vs[j]? with
      | some v => have := hP j v e; exact (by simpa using this.symm)
      | none =>
        have h1 := List.getElem?_eq_none_iff.mp e
        rw [hvl, List.size_toArray] at h1
        exact (List.getElem?_eq_none h1).symm
    subst ev
    rw [List.filter_eq_self.mpr (fun _ _ => rfl)] at hF
    have key := paired_flags rv hF
    refine ⟨.ref D, _, laidN (s := s1) (t' := tk) (a := D) (o := .lst (bs.map fun b => V.int (if b then 1 else 0))) I1 (fun b o e => hk b o (fun z => ?_) (Heap.get?_push_of_some _ e)) nD ?_, rfl, q D hD2⟩
    · have hb := Heap.lt_size e
      have z : b = s1.heap.objs.size := by simpa using z
      rw [z] at hb
      exact Nat.lt_irrefl _ hb
    · obtain ⟨n, e⟩ := hpl
      exact ⟨by rw [List.length_map]; have := hz; rw [List.length_map] at this; exact this, ys.toList, n, key, by rw [e]⟩
end
end DL
/-! Term: what a def of the law makes of the exception that is handled. -/
namespace DL
open PySem PySem.Spec PyProof.Rows L2 HotX
open Evl (Ex)
/-! ### isinstance of the handled exception -/
theorem call_isH {X : Cx} {a D : Addr} {oe : Obj} (hp : (a, oe) ∈ X.pn) (C : ExcC X.K D) (hz : Zc (.ref D) none oe) (hf : ∃ vs, oe.data = .fields vs) : CallR X (.builtin "isinstance") (rIsE X.K D a) := by
  intro pins s σ H xs us Q I r h
  obtain ⟨c, cv, b, rfl, hcv, e, q⟩ := h
  cases r with
  | cons rx rr =>
    cases rr with
    | cons rt rr =>
      cases rr
      cases rx
      have ec := hcv _ rt
      subst ec
      have hget := (I.pin (a, oe) (List.mem_append_left _ hp)).1
      obtain ⟨vs, hv⟩ := hf
      have J : PySem.W.InstAt s.heap a oe D none := by
        obtain ⟨oc, od, oda, osl⟩ := oe
        obtain ⟨h1, h2⟩ := hz
        dsimp only at h1 h2 hv
        subst h1 h2 hv
        exact ⟨hget, rfl, rfl, trivial⟩
      exact PySem.W.kia_one (PySem.W.handS_kitx_exc C.hg C.hk C.hs C.hd C.ha C.hn C.ht C.hm) I.kIn J e (fun z => nomatch z) fun tk => ⟨.bl b, H, I.kept (t' := tk) fun _ _ z => z, rfl, q⟩
theorem isiHK {X : Cx} {K : PySem.W.Frag} {a D : Addr} {oe : Obj} (h : X.K = K) (hp : (a, oe) ∈ X.pn) (C : ExcC K D) (hz : Zc (.ref D) none oe) (hf : ∃ vs, oe.data = .fields vs) : CallR X (.builtin "isinstance") (rIsE K D a) := by
  subst h
  exact call_isH hp C hz hf
section
variable {T : TL} {ρ ρ1 ρ2 : List Sl} {K : PySem.W.Frag} {D a : Addr}
theorem ee_isE {c : V} {cv : Value} {b : Bool} {i : Nat} (h : ρ[i]? = some (.is (kV (.ref a)))) (hcv : ∀ u, RelV c u → u = cv) (hk : PySem.W.kitOne K (.ref D) cv = some b) :
    EE T (tCB (rIsE K D a) (tCons (tVar i) (tCons (tC c) tNil))) ρ (.bool b) ρ := fun F W B H σ Q E k => by
  obtain ⟨o, h1, h2⟩ := E.sl i _ h
  have h2 : o = some (.ref a) := h2
  subst h2
  exact ⟨_, h1, _, cv, b, rfl, hcv, hk, k _ B H (Ex.refl _) E (.bl b)⟩
theorem el_flags {i : Nat} {bs : List Bool} (h : ρ[i]? = some (.dat (.list (bs.map PyData.bool)))) : EL T (tFlags K i) ρ ((bs.map fun b => if b then (1 : Int) else 0).map PyData.int) ρ := fun F W B H σ Q E k => by
  obtain ⟨v, h1, h2⟩ := E.dat h
  obtain ⟨p, xs, rfl, hb, q⟩ := h2.inv_lst
  have ex : ∀ (bs : List Bool) (xs : List V), DtAll B xs (bs.map PyData.bool) → xs = bs.map V.bl := by
    intro bs
    induction bs with
    | nil => intro xs q; cases q; rfl
    | cons b bs ih =>
      intro xs q
      cases q with
      | cons q1 q2 => rw [q1.inv_bl, ih _ q2]; rfl
  have e := ex bs xs q
  refine ⟨p, bs, h1, SqL.of (by rw [← e]; exact E.bh _ _ hb), fun D hD => ?_⟩
  have hg : Grow B H B (upd H D (.lst (bs.map fun b => V.int (if b then 1 else 0)))) := ⟨Ex.refl _, E.bh.trans (Ex.new hD), Ex.new hD, fun p h1 _ => h1, fun h => h⟩
  refine k D _ B _ (Ex.refl _) (E.grow hg) (by cases z : B D with | none => rfl | some u => rw [E.bh _ _ z] at hD; cases hD) (by cases z : F D with | none => rfl | some u => rw [E.fh _ _ z] at hD; cases hD) upd_same ?_ (E.notOwn hD)
  clear k e q hb h1 h hg h2
  induction bs with
  | nil => exact .nil
  | cons b bs ih => exact .cons (.int _) ih
theorem rb_sum {ns : List Int} : RB (rSum K) [eL ns] (.int ns.sum) := fun B H vs Q e bt q k => by
  cases q with
  | cons q1 q2 =>
    cases q2
    obtain ⟨p, xs, rfl, hb, q⟩ := q1.inv_lst
    have ex := q.ints
    exact ⟨p, ns, rfl, SqL.of (by rw [← ex]; exact e _ _ hb), k _ B H (Grow.refl e) (.int _)⟩
theorem ee_index {to : TE} {t : TA} {bs : List Bool} {j : Nat} (h1 : EE T to ρ (.list (bs.map PyData.bool)) ρ1) (h2 : EA T t ρ1 [.bool true] ρ2) (hj : bs[j]? = some true) (hn : ∀ m, m < j → bs[m]? = some false) :
    EE T (tBM K "list" (rIndex K) to t) ρ (.int (j : Nat)) ρ2 := fun F W B H σ Q E k =>
  h1 F W B H σ _ E fun v B1 H1 e1 E1 q1 => by
    obtain ⟨p, xs, rfl, hb, q⟩ := q1.inv_lst
    refine ⟨Or.inl ⟨rfl, xs, SqL.of (E1.bh _ _ hb)⟩, h2 F W B1 H1 σ _ E1 fun vs B2 H2 e2 E2 q2 => ?_⟩
    cases q2 with
    | cons a1 a2 =>
      cases a2
      rw [a1.inv_bl]
      have ex : ∀ (bs : List Bool) (xs : List V), DtAll B1 xs (bs.map PyData.bool) → xs = bs.map V.bl := by
        intro bs
        induction bs with
        | nil => intro xs q; cases q; rfl
        | cons b bs ih =>
          intro xs q
          cases q with
          | cons q1 q2 => rw [q1.inv_bl, ih _ q2]; rfl
      have e := ex bs xs q
      refine ⟨p, xs, .bl true, j, .bl true, rfl, rfl, SqL.of (E2.bh _ _ (e2 _ _ hb)), rfl, ?_, ?_, rfl, fun m z' hm hz => ?_, k _ B2 H2 (e1.trans e2) E2 (.int _)⟩
      · rw [e]; simp [flatV]
      · rw [e, List.getElem?_map, hj]; rfl
      · rw [e, List.getElem?_map, hn m hm] at hz; cases hz; rfl
end
section
variable {X : Cx}
theorem sumHK {K : PySem.W.Frag} (h : X.K = K) (hc : L2H.HotC X) : CallR X (.builtin "sum") (rSum K) := by subst h; exact cr_sumH hc
theorem ixHK {K : PySem.W.Frag} (h : X.K = K) : MtR X "list.index" (rIndex K) := by subst h; exact mt_index
theorem idxK {K : PySem.W.Frag} {o e : Expr} {es : List Expr} {to : TE} {t : TA} {apos cpos : Pos} (h : X.K = K) (ho : PE X o to) (ha : PA X (e :: es) t)
    (hbase : attributeBase o "index" X.env (eval o X.env) = eval o X.env := by rfl)
    (hfew : ((backTo cpos (starEach (e :: es) X.env)).all (fun x => !x.1) && (backToKw cpos (keywordEach [] X.env)).all (fun x => x.1.isSome)
      && decide ((e :: es).length + ([] : List Keyword).length + (if ([] : List Keyword).isEmpty then 0 else 1) < 30)) = true := by rfl)
    (hline : (apos.endLine == cpos.line) = true := by rfl) (hs : starEach (e :: es) X.env = (false, eval e X.env) :: starEach es X.env := by rfl) (hplain : (backTo cpos (starEach es X.env)).any (·.1) = false := by rfl) :
    PE X (.Call (.Attribute o "index" apos) (e :: es) [] cpos) (tBM K "list" (rIndex K) to t) := by
  subst h
  exact pe_bm PySem.F.plainAttrs_list PySem.F.slot_list_index PySem.F.type_list_index mt_index ho ha hbase hfew hline hs hplain
theorem flagsK {K : PySem.W.Frag} {i : Nat} {x y : Str} {scope : Scope} {p1 p2 p3 p4 p5 pos : Pos} (h : X.K = K) (hc : L2H.HotC X) (hN : X.N[i]? = some y) (hv : Vis X.env.scope y) (hint : X.mg "int" = none)
    (hfree : ∀ z ∈ scope.names, z.2 ≠ .free) (hcell : ∀ z ∈ scope.names, z.2 ≠ .cell) (hkind : scope.kind = .function) (hnames : ∀ z ∈ scope.names, z.2 = .local → scope.names.lookup z.1 = some .local) (hx : scope.names.lookup x = some .local)
    (hgi : scope.names.lookup ("int" : Str) = some .globalImplicit) (hd : (y == ("__debug__" : Str)) = false) (hcd : (y == ("__classdict__" : Str)) = false) (hdx : (x == ("__debug__" : Str)) = false) :
    PE X (.ListComp (.Call (.Name "int" p1) [.Name x p2] [] p3) [⟨.Name x p4, .Name y p5, [], 0⟩] scope pos) (tFlags K i) := by
  subst h
  exact pe_flags hc hN hv hint hfree hcell hkind hnames hx hgi hd hcd hdx
end

/-! ### the call, the exception known -/
/-- the value of slot i is the handled exception a; d comes of it -/
def tHot (a : Addr) (i : Nat) (d : PyData) : TE := fun σ H Q => σ[i]? = some (some (.ref a)) ∧ ∃ B, Ex B H ∧ (∀ p ps, B p ≠ some (.tbl ps)) ∧ ∀ v B' H', Grow B H B' H' → Dt B' v d → Q v H'
theorem start_is {N : List Str} {v : V} {B H : Hp} (hN : 1 ≤ N.length) (hB : Ex B H) (hb : ∀ p ps, B p ≠ some (.tbl ps)) : Env [] H (fun p => H p ≠ none ∧ B p = none) B H (L2.start N [v]) (.is (kV v) :: List.replicate (N.length - 1) .no) where
  fh := Ex.refl _
  bh := hB
  wf := fun p hp => hp.1
  wb := fun p hp => hp.2
  tb := fun p hp => by cases hp
  ft := fun h => absurd rfl h
  bt := hb
  ln := by unfold L2.start; simp
  sl := fun i s hs => by
    cases i with
    | zero => cases hs; exact ⟨some v, rfl, rfl⟩
    | succ i =>
      rw [List.getElem?_cons_succ, List.getElem?_replicate] at hs
      split at hs
      · rename_i hi
        cases hs
        exact ⟨none, by unfold L2.start; simp [hi], trivial⟩
      · cases hs
  ne := fun i j p q q' ds es hij hi => by
    cases i with
    | zero => cases hi
    | succ i =>
      rw [List.getElem?_cons_succ, List.getElem?_replicate] at hi
      split at hi <;> cases hi
theorem pe_hotcall {X : Cx} {x m : Str} {st : Stmt} {N : List Str} {k i : Nat} {d : PyData} {a : Addr} {oe : Obj} {e : Expr} {p pos : Pos} (F : Fn X.K X.mg x st) (S : FnScope N [m] (defScope st)) (hbind : BindsAs x st [m]) (hN : 1 ≤ N.length)
    (hp : (a, oe) ∈ X.pn) (hot : L2H.Hot1 X.A (a, oe)) (hr : L2H.RoomH (k + 1) X.A) (hg : Gl X x) (ha : PA X [e] (tCons (tVar i) tNil))
    (hb : ∀ (f : Addr) (cdv : Value) (A : Around) (outer : List PySem.Env) (s : Shared) (H : Hp), L2H.Hot1 A (a, oe) → L2H.RoomH k (A.deeper (envOfC x (defScope st) s.heap.objs.size f cdv)) →
      ∃ t, PSs (L2H.cxH CX0 X.prog X.w X.K X.mg X.base N x (defScope st) f cdv A outer s H E0 (a, oe)).nox (defBody st) t ∧ ∃ ρ', SS [] E0 t (.is (kV (.ref a)) :: List.replicate (N.length - 1) .no) (.rt d ρ'))
    (hdb : (x == ("__debug__" : Str)) = false := by decide) (he : starEach [e] X.env = (false, eval e X.env) :: starEach [] X.env := by rfl) (hpl : (backTo pos (starEach [] X.env)).any (·.1) = false := by rfl) :
    PE X (.Call (.Name x p) [e] [] pos) (tHot a i d) := by
  obtain ⟨f, fd, Fu, hm⟩ := F.ex
  have kp := Fu.kp
  have bi := Fu.binds hbind
  obtain ⟨oc, od, kV, doc, pm, an, cdv, ct, osl, rfl, lk, hcd⟩ := Fu.ex
  refine ⟨fun pins s σ H Q I h => ?_⟩
  obtain ⟨hσ, B, hB, hbt, hQ⟩ := h
  refine wpAny_Call_Name_kw (ld_glob I hg hm ?_ hdb)
  refine PySem.W.callWith_K (h₀ := X.base) I.ok.mod.kin kp (thn (ha.run pos pins s σ H (fun vs H1 => vs = [.ref a] ∧ H1 = H) I ⟨_, hσ, rfl, rfl⟩) fun us s1 ⟨vs, H1, I1, r, q⟩ => ⟨I1.kIn, ?_⟩) he hpl
  obtain ⟨e1, e2⟩ := q
  subst e1
  rw [e2] at I1
  have eu := Vals.ref1 r
  subst eu
  have P1 := I1.pin (a, oe) (List.mem_append_left _ hp)
  have hpin : L2H.PinOk X.stack H s1 (a, oe) := ⟨P1.1, P1.2.1, fun hm => (List.mem_cons.mp (I1.stkSub _ hm)).elim P1.2.2.1 P1.2.2.2.1, P1.2.2.2.2⟩
  have e0 := I1.env0
  have KX := I1.kIn
  have bn := bi s1 [.ref a] KX rfl
  rw [List.append_nil] at bn
  have rc : codeAny (model X.prog X.w) X.A (.call (.ref f) ⟨[.ref a], []⟩) (CR CX0 X.stack X.prog X.w H s1 Q E0) s1 := by
    refine codeAny_call_function hr.depth (KX _ _ lk) rfl S.co S.gen rfl (PySem.W.codeRec_of KX hcd) (bn _ _ _ _ ?_)
    refine wpAny_newFunctionEnv_cells S.kind (fun y hy => ?_) fun env he s2 x2 => ?_
    · have hy' : y.1 = m := by
        have : y ∈ [(m, Value.ref a)] := hy
        simp only [List.mem_singleton] at this
        rw [this]
      rw [hy']
      rcases S.par m (by simp) with q | q
      · exact .inl q
      · exact .inr ⟨q, PySem.W.cellsFrom_some _ _ _ (.inl q)⟩
    subst he
    refine ⟨I1.nolimit.keeps x2.toInCall.keep, codeAny_func ?_⟩
    obtain ⟨t, ht, ρ', hq⟩ := hb f cdv X.A X.stack s1 H hot (hr.deeper _)
    have J : L2.Inv (L2H.cxH CX0 X.prog X.w X.K X.mg X.base N x (defScope st) f cdv X.A X.stack s1 H E0 (a, oe)) [] (L2.start N [.ref a]) H s2 := L2H.inv_startH S hpin e0 rfl r x2
    have fin := hq H _ { nx := fun _ H' => Q .non H', rt := Q } B H (L2.start N [.ref a]) (start_is hN hB hbt) (fun v σ' B' H' e E' q' => hQ v B' H' (end_grow e E') q')
    refine wpAny_mono (ht.nox.run [] s2 (L2.start N [.ref a]) H _ J fin) (fun fl s' hs => ?_) fun e s' hs => hs
    cases fl with
    | ret u =>
      obtain ⟨v, σ', H', J, rv, q⟩ := hs
      exact ⟨v, H', J.os, J.bare, J.base, J.hok, rv, q⟩
    | next =>
      obtain ⟨σ', H', J, q⟩ := hs
      exact ⟨V.non, H', J.os, J.bare, J.base, J.hok, rfl, q⟩
    | brk =>
      obtain ⟨_, _, _, q⟩ := hs
      exact False.elim q
    | cont =>
      obtain ⟨_, _, _, q⟩ := hs
      exact False.elim q
  refine wpAny_call (codeAny_mono rc fun r s2 hq => ?_)
  cases r with
  | error e => exact (show False from hq).elim
  | ok fl =>
    cases fl with
    | ret u => exact I1.after hq
    | next => exact False.elim hq
    | brk => exact False.elim hq
    | cont => exact False.elim hq
end DL
/-! Tld: a lambda handed to a def that catches what the lambda raises and tells its kind. -/
namespace DL
open PySem PySem.Spec PyProof.Rows L2 HotX LamX
open Evl (Ex)
def kinds : List Str := ["InvalidWeb", "InvalidNumbering", "InvalidPlace", "InvalidBegun", "InvalidNumber", "InvalidPair", "InvalidText", "NotGood", "NoLines", "TooMany", "AlreadyThere", "Taken", "Equal", "NotThere", "NothingToUndo"]
/-- what is known of the exception class x -/
structure Tt (K : PySem.W.Frag) (xa : Str → Addr) (x : Str) : Prop where
  mem : x ∈ kinds
  ec : ExcC K (xa x)
  is : ∀ y ∈ kinds, PySem.W.kitOne K (.ref (xa x)) (.ref (xa y)) = some (y == x)
  ve : PySem.W.kitOne K (.ref (xa x)) (.type "ValueError") = some true
  le : PySem.W.exmOne K (.ref (xa x)) (.ref (xa "LineError")) = some true
/-- what is told of it -/
abbrev errD (x : Str) : PyData := .tuple [.str "error", .str x]
/-- a lambda's body, its exceptions of no context -/
def lamN (X : Cx) (A : Around) (outer : List PySem.Env) (s : Shared) (H : Hp) (E : XK) (scope : Scope) (f c : Addr) : Cx :=
  (lamCx X A outer s H E scope f c).wish fun e s' => wpAny (model X.prog X.w) (A.deeper (lamEnv X scope s.heap.objs.size f c)) (leaving (lamEnv X scope s.heap.objs.size f c) e) (fun _ s'' => L2N.CX X.prog X.w outer H s E e s'') (fun e' s'' => L2N.CX X.prog X.w outer H s E e' s'') s'
section
variable {X : Cx} {A : Around} {outer : List PySem.Env} {s : Shared} {H : Hp} {E : XK} {scope : Scope} {f c : Addr}
theorem lamN_takes : L2N.Takes (lamN X A outer s H E scope f c) (fun cls d _ H => E cls d H) := L2N.takes_of (X := lamN X A outer s H E scope f c) rfl rfl rfl rfl
end
section
variable {X : Cx} {pins : List (Addr × Obj)} {σ : L2.St} {H HZ : Hp} {s s1 : Shared}
theorem lam_run {A : Around} {outer : List PySem.Env} {E : XK} {Q : VK} {scope : Scope} {f c : Addr} {params : Arguments} {body : Expr} {pm ctv : Value} {tb : TE} (I : L2.Inv X pins σ H s) (L : LamS X.env.scope scope)
    (hf : s.heap.get? f = some (PySem.W.kla_obj "<lambda>" (X.env.qual ++ "<lambda>") params body scope (cloFrom X.env.cells scope.names []) pm c ctv)) (hfn : H f = none) (hfr : f ∉ frs X.stack)
    (hbind : bindArgs (PySem.W.kla_fn "<lambda>" (X.env.qual ++ "<lambda>") params body scope (cloFrom X.env.cells scope.names []) pm (.ref c) ctv) ⟨[], []⟩ = pure [])
    (e0 : Env0 X.prog X.w X.K X.mg X.base A outer s1 HZ) (hd : A.handled = none) (nl : s1.heap.NoLimit) (hdp : A.depth < recursionLimit) (un : Un (frs X.stack) [] H HZ s.heap s1.heap) (hc : HZ c = some (CodeO c (X.env.qual ++ "<lambda>")))
    (hbody : PE (lamN X A outer s1 HZ E scope f c) body tb) (h : tb σ HZ Q) : codeAny (model X.prog X.w) A (.call (.ref f) ⟨[], []⟩) (CR (L2N.CX X.prog X.w) outer X.prog X.w HZ s1 Q E) s1 := by
  have of1 := un.keep f _ hf hfn hfr (fun z => nomatch (show f ∈ ([] : List Addr) from z))
  obtain ⟨⟨oc, vs, t, hoc, hdc, hvc⟩, _, _⟩ := e0.hok c _ hc
  refine PySem.W.kla_callFunE hdp of1 rfl L.co L.gen rfl ⟨c, oc, vs, t, rfl, hoc, hdc, hvc⟩ ?_
  rw [hbind]
  refine wpAny_pure (wpAny_newFunctionEnv (fun y hy => (L.own y hy).2) (fun y hy => absurd hy (by simp)) (fun h₁ hns hsb => ⟨nl.fresh _ hsb, ?_⟩) L.kind)
  have kp : ∀ b o, s1.heap.get? b = some o → h₁.get? b = some o := fun b o e => hsb.extBut b o (Nat.ne_of_lt (Heap.lt_size e)) (Heap.get?_push_of_some _ e)
  have J0 := lam_start2 (E := E) (f := f) (c' := c) (tk := s1.toks + ([] : List (Str × Value)).length) I L e0 hd un hns kp
  show codeAny _ _ (.expr body (lamEnv X scope s1.heap.objs.size f c)) _ _
  refine PySem.W.kla_codeExpr (wpAny_mono (hbody.run [] _ σ HZ Q (J0.wish _) h) (fun v s' hq => ?_) fun e s' hq => hq)
  obtain ⟨w', H', J', rv, q⟩ := hq
  exact ⟨w', H', J'.os, J'.bare, J'.base, J'.hok, rv, q⟩
end
/-- the def that catches: its statement -/
structure ToldSt (st : Stmt) : Prop where
  body : ∃ p1 p2 p3 p4 p5 p6 p7 p8 p9 p10, defBody st = [.Try [.Return (some (.Call (.Name "deed" p1) [] [] p2)) p3] [.ExceptHandler (some (.Name "LineError" p4)) (some "e") [.Return (some (.Call (.Name "_law_term" p5) [.Name "e" p6] [] p7)) p8] p9] [] [] p10]
  sc : FnScope ["deed", "e"] ["deed"] (defScope st)
  bd : BindsAs "_law_told" st ["deed"]
  vd : (defScope st).names.lookup ("deed" : Str) = some .local
  ve : (defScope st).names.lookup ("e" : Str) = some .local
  gl : (defScope st).names.lookup ("LineError" : Str) = some .globalImplicit
  gt : (defScope st).names.lookup ("_law_term" : Str) = some .globalImplicit
/-- the other def, called in the suite -/
def TermOk (P : Program) (w : World) (K : PySem.W.Frag) (mg : Str → Option Value) (base : Heap) (xa : Str → Addr) (k : Nat) : Prop :=
  ∀ (X : Cx) (i : Nat) (a : Addr) (oe : Obj) (x : Str) (e : Expr) (p pos : Pos), X.prog = P → X.w = w → X.K = K → X.mg = mg → X.base = base → Tt K xa x → Zc (.ref (xa x)) none oe → (∃ vs, oe.data = .fields vs) → (a, oe) ∈ X.pn → L2H.Hot1 X.A (a, oe) → L2H.RoomH k X.A → Gl X "_law_term" →
    PA X [e] (tCons (tVar i) tNil) → starEach [e] X.env = (false, eval e X.env) :: starEach [] X.env → PE X (.Call (.Name "_law_term" p) [e] [] pos) (tHot a i (errD x))
/-- x(lambda: body): t the body's reading by what is wished of its exceptions -/
def tTold (K : PySem.W.Frag) (xa : Str → Addr) (T : TL) (t : XK → TE) : TE := fun σ H Q => Tabs T H ∧ ∀ H1, ExtN H H1 → Tabs T H1 →
  t (fun cls d H' => ∃ x, cls = .ref (xa x) ∧ d = none ∧ Tt K xa x ∧ ∃ B, Ex B H' ∧ (∀ p ps, B p ≠ some (.tbl ps)) ∧ ∀ v B' H'', Grow B H' B' H'' → Dt B' v (errD x) → Q v H'') σ H1 Q
theorem takesF {X : Cx} : L2N.Takes X (fun _ _ _ _ => False) := fun _ _ x => by
  obtain ⟨_, _, _, _, _, _, _, _, _, _, _, _, _, _, _, _, z⟩ := x
  exact z.elim
section
variable {X : Cx}
theorem pe_told {T : TL} {xa : Str → Addr} {st : Stmt} {c P : Addr} {k : Nat} {params : Arguments} {body : Expr} {scope : Scope} {t : XK → TE} {p lpos pos : Pos} (F : Fn X.K X.mg "_law_told" st) (S : ToldSt st) (tm : TermOk X.prog X.w X.K X.mg X.base xa k)
    (hl : X.mg "LineError" = some (.ref (xa "LineError"))) (hg : Gl X "_law_told")
    (TB : TabB X.base X.mg c P) (hcode : X.env.code = .ref c) (hmT : (P, X.env.qual ++ "<lambda>") ∈ T) (hu : ∀ p ∈ T, p.1 = P → p.2 = X.env.qual ++ "<lambda>") (hr : Room (k + 2) X.A) (L : LamS X.env.scope scope) (hdef : defaultsOf params X.env = ([], []))
    (hbind : ∀ (q : Str) (cl : List (Str × Addr)) (pm cv ctv : Value), bindArgs (PySem.W.kla_fn "<lambda>" q params body scope cl pm cv ctv) ⟨[], []⟩ = pure [])
    (hbody : ∀ (A : Around) (outer : List PySem.Env) (s : Shared) (H : Hp) (E : XK) (f c' : Addr), Room k (A.deeper (lamEnv X scope s.heap.objs.size f c')) → PE (lamN X A outer s H E scope f c') body (t E)) :
    PE X (.Call (.Name "_law_told" p) [.Lambda params body scope lpos] [] pos) (tTold X.K xa T t) := by
  obtain ⟨g, fd, Fu, hm⟩ := F.ex
  have kp := Fu.kp
  have bi := Fu.binds S.bd
  obtain ⟨oc, od, kV, doc, pm, an, cdv, ct, osl, rfl, lk, hcd⟩ := Fu.ex
  obtain ⟨p1, p2, p3, p4, p5, p6, p7, p8, p9, p10, hbd⟩ := S.body
  refine ⟨fun pins s σ H Q I h => ?_⟩
  obtain ⟨hT, h⟩ := h
  refine wpAny_Call_Name_kw (ld_glob I hg hm ?_ (by decide))
  refine PySem.W.callWith_K (h₀ := X.base) I.ok.mod.kin kp ?_ (by rfl) (by rfl)
  show wpAny _ _ (spliced ((false, eval (.Lambda params body scope lpos) X.env) :: backTo pos (starEach [] X.env))) _ _ s
  refine Calls.spliced_cons (lam_make2 I TB hcode hmT hu hT hdef (L.has I.ok) fun f c' pm' ctv H1 s' I1 eN T1 hf hfn hfr hco => ?_)
  refine Calls.spliced_nil ⟨I1.kIn, ?_⟩
  have hh := h H1 eN T1
  clear h
  generalize hW : (fun cls d H' => ∃ x, cls = Value.ref (xa x) ∧ d = none ∧ Tt X.K xa x ∧ ∃ B, Ex B H' ∧ (∀ p ps, B p ≠ some (.tbl ps)) ∧ ∀ v B' H'', Grow B H' B' H'' → Dt B' v (errD x) → Q v H'' : XK) = Ew at hh
  have rc : codeAny (model X.prog X.w) X.A (.call (.ref g) ⟨[.ref f], []⟩) (CR CX0 X.stack X.prog X.w H1 s' Q E0) s' := by
    refine run_ofS (N := ["deed", "e"]) (ps := ["deed"]) (us := [.ref f]) (vs := [.ref f]) (k := k + 1) lk hcd S.sc hr I1.env0 (bi s' [.ref f] I1.kIn rfl) (.cons rfl .nil) rfl fun hr' => ?_
    rw [hbd]
    generalize hZ : cxOf CX0 X.prog X.w X.K X.mg X.base ["deed", "e"] "_law_told" (defScope st) g cdv X.A X.stack s' H1 E0 = Z
    have zs : Z.stack = Z.env :: Z.outer := by rw [← hZ]; rfl
    have zf : Z.env.frame = some Z.env.locals := by rw [← hZ]; rfl
    have body1 : ∀ (W : WX) (pn : List (Addr × Obj)) (xe : Value → Shared → Prop), L2N.Takes (Z.nox.tr pn xe) W → PSs (Z.nox.tr pn xe) [.Return (some (.Call (.Name "deed" p1) [] [] p2)) p3]
        (fun D σZ HZ => (∀ cls d H', Ew cls d H' → W cls d σZ H') ∧ σZ[0]? = some (some (.ref f)) ∧ HZ c' = some (CodeO c' (X.env.qual ++ "<lambda>")) ∧ t Ew σ HZ D.rt) := by
      intro W pn xe tk
      refine ⟨fun pins' sZ σZ HZ D IZ hz => ?_⟩
      obtain ⟨hWW, h1, h2, h3⟩ := hz
      have pd : PE (Z.nox.tr pn xe) (.Call (.Name "deed" p1) [] [] p2) (fun σ' H' Q' => σ' = σZ ∧ H' = HZ ∧ Q' = D.rt) := by
        refine ⟨fun pins2 s2 σ2 H2 Q2 I2 ⟨e1, e2, e3⟩ => ?_⟩
        subst e1 e2 e3
        refine wpAny_Call_Name_kw (thn ((pe_var (X := Z.nox.tr pn xe) (pos := p1) (i := 0) (x := "deed") (by rw [← hZ]; rfl) (.inl (by rw [← hZ]; exact S.vd))).run pins2 s2 σ2 H2 (fun v H3 => v = .ref f ∧ H3 = H2) I2 ⟨.ref f, h1, rfl, rfl⟩) fun u s3 ⟨v, H3, I3, r3, q3⟩ => ?_)
        obtain ⟨ev, eH⟩ := q3
        subst ev
        rw [eH] at I3
        obtain rfl : u = Value.ref f := r3
        have un : Un (frs X.stack) [] H1 H2 s'.heap s3.heap := by
          have := I3.base
          rw [← hZ] at this
          exact this
        refine PySem.W.callWith_F0 ⟨_, _, _, _, un.keep f _ hf hfn hfr (fun z => nomatch (show f ∈ ([] : List Addr) from z))⟩ ?_
        have A0 : (Z.nox.tr pn xe).A = X.A.deeper (envOfC "_law_told" (defScope st) s'.heap.objs.size g cdv) := by rw [← hZ]; rfl
        have hr2 : Room k ((X.A.deeper (envOfC "_law_told" (defScope st) s'.heap.objs.size g cdv)).deeper (lamEnv X scope s3.heap.objs.size f c')) := hr'.deeper _
        have e0 := I3.env0
        have pw : Z.prog = X.prog ∧ Z.w = X.w ∧ Z.K = X.K ∧ Z.mg = X.mg ∧ Z.base = X.base := by rw [← hZ]; exact ⟨rfl, rfl, rfl, rfl, rfl⟩
        have rl : codeAny (model X.prog X.w) (Z.nox.tr pn xe).A (.call (.ref f) ⟨[], []⟩) (CR (L2N.CX X.prog X.w) (Z.nox.tr pn xe).stack X.prog X.w H2 s3 D.rt Ew) s3 := by
          rw [A0] at e0 ⊢
          refine lam_run I1 L hf hfn hfr (hbind _ _ _ _ _) (by obtain ⟨a1, a2, a3, a4, a5⟩ := pw; rw [← a1, ← a2, ← a3, ← a4, ← a5]; exact e0) hr'.hd I3.nolimit hr'.depth un h2 (hbody _ _ s3 H2 Ew f c' hr2) h3
        obtain ⟨a1, a2, _⟩ := id pw
        show wpAny (model Z.prog Z.w) _ _ _ _ _
        rw [a1, a2]
        refine wpAny_call (codeAny_mono rl fun r s4 hq => ?_)
        cases r with
        | error e => exact tk e s4 (L2N.XE.of_call I3 (fun cls d H' he => hWW cls d H' he) (by show L2N.CX Z.prog Z.w _ _ _ _ _ _; rw [a1, a2]; exact hq))
        | ok fl =>
          cases fl with
          | ret u => exact I3.after (X := Z.nox.tr pn xe) (by show CE _ Z.prog Z.w _ _ _ _ _; rw [a1, a2]; exact hq)
          | next => exact False.elim hq
          | brk => exact False.elim hq
          | cont => exact False.elim hq
      exact (pss_one (ps_ret (pos := p3) pd)).run pins' sZ σZ HZ D IZ ⟨rfl, rfl, rfl⟩
    have suite : ∀ (a : Addr) (oe : Obj) (cls : Value) (d : Option Addr) (pn : List (Addr × Obj)), L2N.Zn cls d oe → (∃ vs, oe.data = .fields vs) → PSs (Z.nox.suite a ((a, oe) :: pn)) [.Return (some (.Call (.Name "_law_term" p5) [.Name "e" p6] [] p7)) p8]
        (fun D σZ HZ => ∃ x, cls = .ref (xa x) ∧ d = none ∧ Tt X.K xa x ∧ tHot a 1 (errD x) σZ HZ D.rt) := by
      intro a oe cls d pn zn fl
      refine ⟨fun pins' sZ σZ HZ D IZ ⟨x, e1, e2, tt, hz⟩ => ?_⟩
      subst e1 e2
      obtain ⟨vs, hvs⟩ := id fl
      have hot : L2H.Hot1 (Z.nox.suite a ((a, oe) :: pn)).A (a, oe) := ⟨rfl, vs, hvs, zn.2.2 vs hvs⟩
      have rm : L2H.RoomH k (Z.nox.suite a ((a, oe) :: pn)).A := by
        have := L2H.roomH_of (hr'.mono (Nat.le_succ k))
        rw [← hZ]
        exact ⟨this.dp, this.un⟩
      have pt := tm (Z.nox.suite a ((a, oe) :: pn)) 1 a oe x (.Name "e" p6) p5 p7 (by rw [← hZ]; rfl) (by rw [← hZ]; rfl) (by rw [← hZ]; rfl) (by rw [← hZ]; rfl) (by rw [← hZ]; rfl) tt zn.zc fl (by simp) hot rm (by rw [← hZ]; exact S.gt)
        (pa_cons (pe_var (i := 1) (by rw [← hZ]; rfl) (.inl (by rw [← hZ]; exact S.ve))) pa_nil) rfl
      exact (pss_one (ps_ret (pos := p8) pt)).run pins' sZ σZ HZ D IZ hz
    refine ⟨_, PSs.nox (pss_one (L2N.ps_try_as (X := Z.nox) (i := 1) (x := "LineError") (n := "e") (c := .ref (xa "LineError")) zs zf (by rw [← hZ]; exact S.sc.nd) (by rw [← hZ]; rfl) (by rw [← hZ]; exact S.ve) ⟨by rw [← hZ]; exact S.gl, by decide, .inl (by rw [← hZ]; exact hl)⟩ takesF
      (fun W pn xe tk _ => body1 W pn xe tk) suite)), ?_⟩
    refine ⟨fun cls d H' he => ?_, rfl, hco, hh⟩
    rw [← hW] at he
    obtain ⟨x, e1, e2, tt, B, b1, b2, b3⟩ := he
    subst e1 e2
    refine ⟨true, by rw [← hZ]; exact tt.le, fun _ a ha => ⟨x, rfl, rfl, tt, rfl, B, b1, b2, b3⟩, fun z => by cases z⟩
  refine wpAny_call (codeAny_mono rc fun r s2 hq => ?_)
  cases r with
  | error e => exact (show False from hq).elim
  | ok fl =>
    cases fl with
    | ret u => exact I1.after hq
    | next => exact False.elim hq
    | brk => exact False.elim hq
    | cont => exact False.elim hq
theorem toldK {K : PySem.W.Frag} (hK : X.K = K) {T : TL} {xa : Str → Addr} {st : Stmt} {c P : Addr} {k : Nat} {params : Arguments} {body : Expr} {scope : Scope} {t : XK → TE} {p lpos pos : Pos} (F : Fn K X.mg "_law_told" st) (S : ToldSt st) (tm : TermOk X.prog X.w K X.mg X.base xa k)
    (hl : X.mg "LineError" = some (.ref (xa "LineError"))) (hg : Gl X "_law_told")
    (TB : TabB X.base X.mg c P) (hcode : X.env.code = .ref c) (hmT : (P, X.env.qual ++ "<lambda>") ∈ T) (hu : ∀ p ∈ T, p.1 = P → p.2 = X.env.qual ++ "<lambda>") (hr : Room (k + 2) X.A) (L : LamS X.env.scope scope) (hdef : defaultsOf params X.env = ([], []))
    (hbind : ∀ (q : Str) (cl : List (Str × Addr)) (pm cv ctv : Value), bindArgs (PySem.W.kla_fn "<lambda>" q params body scope cl pm cv ctv) ⟨[], []⟩ = pure [])
    (hbody : ∀ (A : Around) (outer : List PySem.Env) (s : Shared) (H : Hp) (E : XK) (f c' : Addr), Room k (A.deeper (lamEnv X scope s.heap.objs.size f c')) → PE (lamN X A outer s H E scope f c') body (t E)) :
    PE X (.Call (.Name "_law_told" p) [.Lambda params body scope lpos] [] pos) (tTold K xa T t) := by
  subst hK
  exact pe_told F S tm hl hg TB hcode hmT hu hr L hdef hbind hbody
end
end DL
namespace DL
open PySem L2 LamX
open Evl (Ex)
/-! ### its reading in data -/
theorem Env.ext {T : TL} {F : Hp} {W : Addr → Prop} {B H H1 : Hp} {σ : Sigma} {ρ : List Sl} (E : Env T F W B H σ ρ) (hT : T ≠ []) (e : ExtN H H1) (t : Tabs T H1) : Env T F W B H1 σ ρ where
  fh := fun a o h => e a o (E.fh a o h) fun ps z => E.ft hT a ps (by rw [h, z])
  bh := fun a o h => e a o (E.bh a o h) fun ps z => E.bt a ps (by rw [h, z])
  wf := E.wf
  wb := E.wb
  tb := t
  ft := E.ft
  bt := E.bt
  ln := E.ln
  sl := fun i s hs => by
    obtain ⟨o, h1, h2⟩ := E.sl i s hs
    refine ⟨o, h1, ?_⟩
    cases s with
    | no => trivial
    | dat d => exact h2
    | is v => exact h2
    | own qa ds =>
      obtain ⟨p, xs, a1, a2, a3, a4, a5, a6⟩ := h2
      exact ⟨p, xs, a1, a2, a3, e _ _ a4 (fun ps z => by cases z), a5, a6⟩
  ne := E.ne
/-- t, its exceptions handed to what is wished of them, ends in r -/
def ER (T : TL) (t : XK → TE) (ρ : List Sl) (r : Res) : Prop := ∀ F W B H σ (Q : VK) (E : XK), Env T F W B H σ ρ →
  (match r with
    | .ok d => ∀ v B' H', Ex B B' → Env T F W B' H' σ ρ → Dt B' v d → Q v H'
    | .ex C => ∀ B' H', Ex B B' → Env T F W B' H' σ ρ → E (.ref C) none H') → t E σ H Q
section
variable {T : TL} {ρ : List Sl} {ds : List PyData} {d : PyData} {ta : TA} {te : TE} {R : List PyData → Res → Prop} {r : Res} {t : XK → TE} {K : PySem.W.Frag} {xa : Str → Addr} {x : Str}
theorem er_call (h : EA T ta ρ ds ρ) (hR : R ds r) : ER T (fun E => tCall (spP R) [] E ta) ρ r := fun F W B H σ Q E Ev k =>
  h F W B H σ _ Ev fun vs B1 H1 e1 E1 q1 => by
    show spP R (vs ++ []) H1 Q E
    rw [List.append_nil]
    refine ⟨B1, ds, r, E1.bh, E1.bt, q1, hR, ?_⟩
    cases r with
    | ok d => exact fun v B' H' g q => k v B' H' (e1.trans g.bb) (E1.grow g) q
    | ex C => exact fun B' H' g => k B' H' (e1.trans g.bb) (E1.grow g)
theorem er_ee (h : EE T te ρ d ρ) : ER T (fun _ => te) ρ (.ok d) := fun F W B H σ Q E Ev k => h F W B H σ Q Ev k
/-- it gives a datum -/
theorem ee_told (hT : T ≠ []) (h : ER T t ρ (.ok d)) : EE T (tTold K xa T t) ρ d ρ := fun F W B H σ Q Ev k =>
  ⟨Ev.tb, fun H1 e t1 => h F W B H1 σ _ _ (Ev.ext hT e t1) fun v B' H' e' E' q => k v B' H' e' E' q⟩
/-- it raises -/
theorem ee_toldX (hT : T ≠ []) (tt : Tt K xa x) (h : ER T t ρ (.ex (xa x))) : EE T (tTold K xa T t) ρ (errD x) ρ := fun F W B H σ Q Ev k =>
  ⟨Ev.tb, fun H1 e t1 => h F W B H1 σ _ _ (Ev.ext hT e t1) fun B' H' e' E' => ⟨x, rfl, rfl, tt, B', E'.bh, E'.bt, fun v B2 H2 g q => k v B2 H2 (e'.trans g.bb) (E'.grow g) q⟩⟩
end
end DL
namespace DL
open PySem L2
section
variable {T : TL} {ρ : List Sl}
theorem ea_6 {t1 t2 t3 t4 t5 t6 : TE} {d1 d2 d3 d4 d5 d6 : PyData} (h1 : EE T t1 ρ d1 ρ) (h2 : EE T t2 ρ d2 ρ) (h3 : EE T t3 ρ d3 ρ) (h4 : EE T t4 ρ d4 ρ) (h5 : EE T t5 ρ d5 ρ) (h6 : EE T t6 ρ d6 ρ) :
    EA T (tCons t1 (tCons t2 (tCons t3 (tCons t4 (tCons t5 (tCons t6 tNil)))))) ρ [d1, d2, d3, d4, d5, d6] ρ := ea_cons h1 (ea_cons h2 (ea_cons h3 (ea_cons h4 (ea_cons h5 (ea_1 h6)))))
theorem ea_4 {t1 t2 t3 t4 : TE} {d1 d2 d3 d4 : PyData} (h1 : EE T t1 ρ d1 ρ) (h2 : EE T t2 ρ d2 ρ) (h3 : EE T t3 ρ d3 ρ) (h4 : EE T t4 ρ d4 ρ) : EA T (tCons t1 (tCons t2 (tCons t3 (tCons t4 tNil)))) ρ [d1, d2, d3, d4] ρ := ea_cons h1 (ea_3 h2 h3 h4)
theorem ea_5 {t1 t2 t3 t4 t5 : TE} {d1 d2 d3 d4 d5 : PyData} (h1 : EE T t1 ρ d1 ρ) (h2 : EE T t2 ρ d2 ρ) (h3 : EE T t3 ρ d3 ρ) (h4 : EE T t4 ρ d4 ρ) (h5 : EE T t5 ρ d5 ρ) : EA T (tCons t1 (tCons t2 (tCons t3 (tCons t4 (tCons t5 tNil))))) ρ [d1, d2, d3, d4, d5] ρ := ea_cons h1 (ea_4 h2 h3 h4 h5)
end
end DL
/-! TldEnd: the end of a law with lambdas. -/
namespace DL
open PySem PySem.Spec PyProof.Rows L2 LamX
open Evl (Ex)
theorem TermOk.mono {P : Program} {w : World} {K : PySem.W.Frag} {mg : Str → Option Value} {base : Heap} {xa : Str → Addr} {j k : Nat} (h : TermOk P w K mg base xa j) (hk : j ≤ k) : TermOk P w K mg base xa k :=
  fun X i a oe x e p pos h1 h2 h3 h4 h5 tt hz hf hp hot hr => h X i a oe x e p pos h1 h2 h3 h4 h5 tt hz hf hp hot (hr.mono hk)
/-- the one table of a law with lambdas -/
abbrev lamT (P : Addr) : TL := [(P, (("law" : Str) ++ ".<locals>.") ++ "<lambda>")]
theorem lamT_u {P : Addr} {q : Str} : ∀ p ∈ [(P, q)], p.1 = P → p.2 = q := fun p h _ => by
  cases h with
  | head => rfl
  | tail _ h => cases h
theorem lamT_ne {P : Addr} : lamT P ≠ [] := fun h => by cases h
/-- the law's def: its code object known -/
theorem fnC {P : Program} {w : World} {K : PySem.W.Frag} {mg : Str → Option Value} {base : Heap} {x : Str} {st : Stmt} {f c : Addr} {oc : Value} {od an : Option Addr} {kV doc pm ct : Value} {osl : Array (Option Value)} {N ps : List Str} {k : Nat} {sp : Sp}
    (lk : K.lookup f = some ⟨oc, od, .func (PySem.W.fnOf x x (defArgs st) (defBody st) (defScope st) .none kV doc pm an (.ref c) ct), osl⟩) (hcd : PySem.W.codeIn K (.ref c) x = true) (S : FnScope N ps (defScope st)) (len : ∀ vs H Q E, sp vs H Q E → vs.length = ps.length)
    (hbody : ∀ (A : Around) (outer : List PySem.Env) (s : Shared) (H : Hp) (vs : List V) (Q : VK) (E : XK), Room k (A.deeper (envOfC x (defScope st) s.heap.objs.size f (.ref c))) → sp vs H Q E →
      ∃ t, PSs (cxOf CX0 P w K mg base N x (defScope st) f (.ref c) A outer s H E).nox (defBody st) t ∧ t { nx := fun _ H' => Q .non H', rt := Q } (L2.start N vs) H) :
    FnOk P w K mg base CX0 (k + 1) f (PySem.W.fnOf x x (defArgs st) (defBody st) (defScope st) .none kV doc pm an (.ref c) ct) ps sp :=
  fn_of lk hcd S len fun A outer s H vs Q E hr hsp => by
    obtain ⟨t, h, q⟩ := hbody A outer s H vs Q E hr hsp
    exact ⟨t, h.nox, q⟩
theorem walkT {l : PySem.W.OpenLaw} {k : Nat} {q : Program} {loose : List Str} {XP : (Str → Option Value) → Heap → Prop} {d : DefRec} {K : Params → PySem.W.Frag} {as : List Addr} {ek : ∀ P, as = (K P).map (·.1)} {P : Addr} (hn : l.most = some 63) (hdf : d.params.defaults = []) (hr : Room k callerA)
    (F : ∀ (w : World) (mg : Str → Option Value) (fa : Addr) (h : Heap), (K w.params).In h → h.Ns mainGlobals mg → mg d.name = some (.ref fa) →
      ∃ (fd : FuncData) (c : Addr), PySem.W.codeHdIn (K w.params) c P = true ∧ (K w.params).lookup P = none ∧ (∀ (s : Shared) (u : Value), BindsTo s fd ⟨[u], []⟩ [("script", u)]) ∧
        ∀ base : Heap, (K w.params).In base → base.Ns mainGlobals mg → TabB base mg c P → FnOk l.prog w (K w.params) mg base CX0 k fa fd ["script"] (spLaw (K w.params) (lamT P))) :
    PySem.W.WalkO q loose XP (PySem.W.kmHook K as ek [P]).says l.row.toRowW d [] (fun f vs => PySem.call f vs) := by
  refine Att.attach_callB hn hdf fun w s₀ s₁ mg mb fa o pm cd doc a vs ns G Y ho hd hcd hmg hobj hints hlen hbits hg => ?_
  have KX := PySem.W.km_in_of Y
  have T0 := PySem.W.km_tabs_of Y P (.head _)
  obtain ⟨fd, c, ht, hP, hb, hF⟩ := F w mg fa _ KX G.T.g hmg
  have C := PySem.W.codeHd_of_K KX ht
  have one : ∀ {Z : Addr × Addr → Prop}, Z (c, P) → ∀ p ∈ [(c, P)], Z p := fun z p hp => by
    cases hp with
    | head => exact z
    | tail _ h => cases h
  refine law_callTs (cs := [(c, P)]) KX G.T.g G.T.b G.T.builtins G.T.nolimit hg (one T0) (one hP) (one C) G.T.bmain hobj hints (Nat.le_trans hlen (by decide)) hr (fun base KB hB tb => hF base KB hB (tb (c, P) (.head _))) hb (fun H hH hS => ⟨a, ns, rfl, hS, hlen, fun p hp => ?_, fun _ => rfl⟩) fun H e s' z => z
  have z := hH (c, P) (.head _)
  cases hp with
  | head => exact TabS.nil z
  | tail _ h => cases h
/-- the exception classes' addresses -/
def xaOf (l : List (Str × Addr)) (y : Str) : Addr := (l.lookup y).getD 0
theorem lookup_of {α : Type} : ∀ {l : List (Str × α)} {p : Str × α}, (l.map (·.1)).Nodup → p ∈ l → l.lookup p.1 = some p.2
  | [], _, _, h => by cases h
  | q :: l, p, nd, h => by
    rw [List.map_cons, List.nodup_cons] at nd
    rcases List.mem_cons.mp h with e | h9
    · subst e; obtain ⟨a, b⟩ := p; show List.lookup a ((a, b) :: l) = some b; unfold List.lookup; simp
    · have ne : (p.1 == q.1) = false := by
        rw [beq_eq_false_iff_ne]
        intro z
        exact nd.1 (z ▸ List.mem_map.mpr ⟨p, h9, rfl⟩)
      obtain ⟨a, b⟩ := q
      show List.lookup p.1 ((a, b) :: l) = some p.2
      unfold List.lookup
      rw [show (p.1 == a) = false from ne]
      exact lookup_of nd.2 h9
theorem xaOf_at {l : List (Str × Addr)} {p : Str × Addr} (nd : (l.map (·.1)).Nodup) (h : p ∈ l) : xaOf l p.1 = p.2 := by
  unfold xaOf
  rw [lookup_of nd h]; rfl
/-- what the end must give of a class that is told -/
structure TtF (K : PySem.W.Frag) (D L : Addr) (cs : List Addr) (bs : List Bool) : Prop where
  ec : ExcC K D
  ve : PySem.W.kitOne K (.ref D) (.type "ValueError") = some true
  le : PySem.W.exmOne K (.ref D) (.ref L) = some true
  is : ∀ p ∈ cs.zip bs, PySem.W.kitOne K (.ref D) (.ref p.1) = some p.2
theorem tt_of {K : PySem.W.Frag} {x : Str} {D L : Addr} {cs : List Addr} {bs : List Bool} {xa : Str → Addr} (h : TtF K D L cs bs) (hx : x ∈ kinds) (hb : bs = kinds.map fun y => y == x) (hD : xa x = D) (hL : xa "LineError" = L) (hc : ∀ p ∈ kinds.zip cs, xa p.1 = p.2) (hl : cs.length = kinds.length) : Tt K xa x := by
  refine ⟨hx, by rw [hD]; exact h.ec, fun y hy => ?_, by rw [hD]; exact h.ve, by rw [hD, hL]; exact h.le⟩
  obtain ⟨i, hi, e⟩ := List.getElem_of_mem hy
  have hic : i < cs.length := by omega
  have h1 : xa y = cs[i] := by
    have := hc (kinds[i], cs[i]) (by
      have := List.getElem_mem (l := kinds.zip cs) (n := i) (by rw [List.length_zip]; omega)
      rwa [List.getElem_zip] at this)
    rw [← e]; exact this
  have hbl : bs.length = kinds.length := by rw [hb, List.length_map]
  have h2 := h.is (cs[i], bs[i]) (by
    have := List.getElem_mem (l := cs.zip bs) (n := i) (by rw [List.length_zip]; omega)
    rwa [List.getElem_zip] at this)
  rw [hD, h1, h2]
  subst hb
  simp [e]
end DL
namespace DL
open PySem L2
theorem pss_void {X : Cx} {ss : List Stmt} : PSs X ss (fun _ _ _ => False) := ⟨fun _ _ _ _ _ _ h => h.elim⟩
end DL
namespace DL
open PySem L2
theorem ee_neg {T : TL} {te : TE} {ρ ρ1 : List Sl} {i : Int} (h : EE T te ρ (.int i) ρ1) : EE T (tUn (rU fun i => .int (-i)) te) ρ (.int (-i)) ρ1 := fun F W B H σ Q E k =>
  h F W B H σ _ E fun v B1 H1 e1 E1 q1 => ⟨i, q1.inv_int, k _ B1 H1 e1 E1 (.int _)⟩
end DL
/-! MirF: the finding of numberings, mirrored. -/
namespace U
open PySem L2 DL
def nearN (w : Wb) (p : Int) : List Int := (w.2.filter fun q => [q.1, q.2].contains p).map fun q => q.1 + q.2 - p
def twinN (w : Wb) (a b : Int) : Bool := decide (sortI ((nearN w a).filter fun x => !decide (x = b)) = sortI ((nearN w b).filter fun x => !decide (x = a)))
abbrev Pl := List (List Int × List Int)
def planAt (w : Wb) (p : Int) : List Int × List Int := ((nearN w p).filter fun o => decide (o < p), (ri 0 p.toNat).filter fun o => twinN w o p)
def planN (w : Wb) : Pl := (ri 0 w.1.toNat).map (planAt w)
abbrev eLL (x : List Int × List Int) : PyData := .tuple [eL x.1, eL x.2]
abbrev eTL (x : List Int × List Int) : PyData := .tuple [eT x.1, eL x.2]
abbrev ePl (pl : Pl) : PyData := .list (pl.map eLL)
def plAt (pl : Pl) (i : Nat) : List Int × List Int := pl.getD i ([], [])
def diffs (near b : List Int) (n : Int) : List Int := near.map fun p => iabs (at0 b p - n)
def usedN (pl : Pl) (b : List Int) : List Int := (List.range b.length).foldl (fun l i => l ++ diffs (plAt pl i).1 b (b.getD i 0)) []
def lowN (tw b : List Int) (fixed : Int) : Int := ((tw.filter fun t => decide (fixed ≤ t)).map (at0 b)).foldl max (-1)
def okNext (q : List Int × List Int) (b used : List Int) (n : Int) : Bool := !b.contains n && decide (dcount (used ++ diffs q.1 b n) = (used ++ diffs q.1 b n).length)
def nextN (pl : Pl) (top : Int) (b : List Int) (fixed : Int) (used : List Int) : List (List Int × List Int) :=
  ((ri (lowN (plAt pl b.length).2 b fixed + 1) (top + 1 - (lowN (plAt pl b.length).2 b fixed + 1)).toNat).filter (okNext (plAt pl b.length) b used)).map fun n => (b ++ [n], used ++ diffs (plAt pl b.length).1 b n)
def firstIn (pl : Pl) (top fixed : Int) : Nat → List Int → List Int → Option (List Int)
  | 0, b, _ => if b.length = pl.length then some b else none
  | d + 1, b, used => if b.length = pl.length then some b else (nextN pl top b fixed used).findSome? fun x => firstIn pl top fixed d x.1 x.2
def optD : Option (List Int) → PyData
  | none => .none
  | some b => eT b
def firstFrom (w : Wb) (top : Int) (b : List Int) : Option (List Int) := firstIn (planN w) top b.length (w.1.toNat - b.length) b (usedN (planN w) b)
/-- a plan's places stand ahead; short -/
def WfPl (pl : Pl) : Prop := ∀ i, i < pl.length → (∀ x ∈ (plAt pl i).1, 0 ≤ x ∧ x < (i : Int)) ∧ (∀ x ∈ (plAt pl i).2, 0 ≤ x ∧ x < (i : Int)) ∧ (plAt pl i).1.length ≤ 20 ∧ (plAt pl i).2.length ≤ 20
theorem plAt_ok {pl : Pl} {i : Nat} (h : i < pl.length) : atI (pl.map eLL) ((i : Nat) : Int) = some (eLL (plAt pl i)) := by
  refine L2.atI_nat ?_
  rw [List.getElem?_map, List.getElem?_eq_getElem h]
  unfold plAt
  rw [List.getD_eq_getElem?_getD, List.getElem?_eq_getElem h]; rfl
theorem rb_maxI {K : PySem.W.Frag} {ns : List Int} {m : Int} (h : m ∈ ns) (h2 : ∀ y ∈ ns, y ≤ m) : RB (rMax K) [eL ns] (.int m) := fun B H vs Q e bt q k => by
  cases q with
  | cons q1 q2 =>
    cases q2
    obtain ⟨p, xs, rfl, hb, q⟩ := q1.inv_lst
    have ex := q.ints
    refine ⟨p, ns, rfl, SqL.of (by rw [← ex]; exact e _ _ hb), List.length_pos_of_mem h, fun m' h1' h2' => ?_⟩
    have : m' = m := Int.le_antisymm (h2 m' h1') (h2' m h)
    rw [this]
    exact k _ B H (Grow.refl e) (.int _)
theorem fmax_mem : ∀ (xs : List Int) (a : Int), xs.foldl max a = a ∨ xs.foldl max a ∈ xs
  | [], _ => .inl rfl
  | x :: xs, a => by
    rcases fmax_mem xs (max a x) with h | h
    · rw [List.foldl_cons, h]
      rcases Int.le_total a x with z | z
      · rw [Int.max_eq_right z]; exact .inr List.mem_cons_self
      · rw [Int.max_eq_left z]; exact .inl rfl
    · exact .inr (List.mem_cons_of_mem _ h)
theorem fmax_ge : ∀ (xs : List Int) (a : Int), a ≤ xs.foldl max a ∧ ∀ y ∈ xs, y ≤ xs.foldl max a
  | [], a => ⟨Int.le_refl _, fun _ h => by cases h⟩
  | x :: xs, a => by
    obtain ⟨h1, h2⟩ := fmax_ge xs (max a x)
    rw [List.foldl_cons]
    refine ⟨by omega, fun y hy => ?_⟩
    rcases List.mem_cons.mp hy with rfl | hy
    · omega
    · exact h2 y hy
theorem rb_low {K : PySem.W.Frag} {ns : List Int} : RB (rMax K) [eL (-1 :: ns)] (.int (ns.foldl max (-1))) := by
  refine rb_maxI ?_ fun y hy => ?_
  · rcases fmax_mem ns (-1) with h | h
    · rw [h]; exact List.mem_cons_self
    · exact List.mem_cons_of_mem _ h
  · rcases List.mem_cons.mp hy with rfl | hy
    · exact (fmax_ge ns (-1)).1
    · exact (fmax_ge ns (-1)).2 y hy
/-- a def of no promise -/
theorem cal_void {P : Program} {w : World} {K : PySem.W.Frag} {mg : Str → Option Value} {base : Heap} {k : Nat} {x : Str} {st : Stmt} {ps : List Str} {R : List PyData → Res → Prop} (F : Fn K mg x st) (hbind : BindsAs x st ps) (h : ∀ ds r, ¬ R ds r) : Cal P w K mg base k x ps (spP R) := by
  obtain ⟨f, fd, Fu, hm⟩ := F.ex
  refine ⟨f, fd, ⟨fun vs H Q E ⟨_, _, _, _, _, _, z, _⟩ => absurd z (h _ _), fun A outer s H args us vs Q E hr e0 hb r ⟨_, _, _, _, _, _, z, _⟩ => absurd z (h _ _)⟩, hm, Fu.kp, Fu.binds hbind⟩
end U
/-! SeqI: a list or a tuple gone through by the same code. -/
namespace DL
open PySem PySem.Spec PyProof.Rows L2
open Evl (Ex)
def iSeq (K : PySem.W.Frag) (tl : TE) : TI := fun σ H R => tl σ H fun x H1 => ∃ a, x = .ref a ∧ (((∃ xs, SqT K H1 a xs) ∧ R (Itt K a) H1) ∨ ((∃ xs, SqL K H1 a xs) ∧ R (Itl K a) H1))
theorem piS {X : Cx} {K : PySem.W.Frag} {tg l : Expr} {tl : TE} (hK : X.K = K) (hl : PE X l tl) : PI X tg l (iSeq K tl) := by
  subst hK
  refine ⟨fun pins s σ H R I h => ?_⟩
  refine thn (hl.run pins s σ H _ I h) fun v s1 ⟨x, H1, I1, r1, q1⟩ => ?_
  obtain ⟨a, rfl, q1⟩ := q1
  obtain rfl : v = Value.ref a := r1
  rcases q1 with ⟨⟨xs, hq⟩, q⟩ | ⟨⟨xs, hq⟩, q⟩
  · obtain ⟨its, rv, p, hz⟩ := I1.tuple hq
    exact wpAny_pyIter_tuple (show s1.heap.IsTuple a its.toArray from p) (pi_one (tk := s1.toks) I1 _ (turn_tuple a _) ⟨_, Heap.get?_push_size _ rfl, rfl, rfl⟩ q)
  · obtain ⟨its, rv, p, hz⟩ := I1.list hq
    exact wpAny_pyIter_list p.isList (pi_one (tk := s1.toks) I1 _ (turn_list a _) ⟨_, Heap.get?_push_size _ rfl, rfl, rfl⟩ q)
section
variable {T : TL} {K : PySem.W.Frag} {g : TG} {tt : TT} {te tl : TE} {vs : List Nat} {ρ ρ1 : List Sl} {ds es : List PyData}
theorem el_lcST (h : EE T tl ρ (.tuple ds) ρ1) (R : LcR (LcT T g tt te vs) ds ρ1 es ρ1) (hl : es.length ≤ 100000) : EL T (tLc (iSeq K tl) g tt te vs) ρ es ρ1 := fun F W B H σ Q E k =>
  h F W B H σ _ E fun v B1 H1 e1 E1 q1 => by
    obtain ⟨a, xs, f1, f2, q⟩ := q1.inv_tup
    refine ⟨a, f1, .inl ⟨⟨xs, SqT.of (E1.bh _ _ f2)⟩, fun D hD => lc_tup (xs := xs) (LcI T g tt te vs F W B1 σ D ds es ρ1) (lc_start E1 hD R) (fun i H _ ⟨B', ρi, _, _, _, e, E, _⟩ => SqT.of (E.bh _ _ (e _ _ f2))) (fun i x H hx I => ?_) (fun H I => lc_end e1 (by rw [q.length]; exact Nat.le_refl _) k I)⟩⟩
    obtain ⟨d, hd, qd⟩ := q.getV hx
    exact lc_turn hd hl (fun B' e => qd.mono e) I
theorem el_lcSL (h : EE T tl ρ (.list ds) ρ1) (R : LcR (LcT T g tt te vs) ds ρ1 es ρ1) (hl : es.length ≤ 100000) : EL T (tLc (iSeq K tl) g tt te vs) ρ es ρ1 := fun F W B H σ Q E k =>
  h F W B H σ _ E fun v B1 H1 e1 E1 q1 => by
    obtain ⟨a, xs, f1, f2, q⟩ := q1.inv_lst
    refine ⟨a, f1, .inr ⟨⟨xs, SqL.of (E1.bh _ _ f2)⟩, fun D hD => lc_list (xs := xs) (LcI T g tt te vs F W B1 σ D ds es ρ1) (lc_start E1 hD R) (fun i H _ ⟨B', ρi, _, _, _, e, E, _⟩ => SqL.of (E.bh _ _ (e _ _ f2))) (fun i x H hx I => ?_) (fun H I => lc_end e1 (by rw [q.length]; exact Nat.le_refl _) k I)⟩⟩
    obtain ⟨d, hd, qd⟩ := q.getV hx
    exact lc_turn hd hl (fun B' e => qd.mono e) I
end
end DL
/-! SortT: sorted(tuple of ints). -/
namespace DL
open PySem PySem.Spec PyProof.Rows L2
open Evl (Ex)
section
variable {prog : Program} {w : World} {A : Around} {E : Value → Shared → Prop} {s : Shared}
theorem collectT {l : Addr} {vs : List Value} {Q : List Value → Shared → Prop} (hl : s.heap.IsTuple l vs.toArray)
    (h : Q vs { s with heap := (s.heap.push (seqObj "list" #[] 0)).update s.heap.objs.size (Obj.mapSeq (· ++ vs.toArray)) }) (hsz : vs.length ≤ sizeLine) : wpAny (model prog w) A (collect (.ref l)) Q E s := by
  obtain ⟨o, ho, hc, n, hd⟩ := id hl
  unfold collect
  refine wpAny_bind (wpAny_runValue (codeAny_builtin entry_proto_collect' ?_))
  show wpAny _ _ (do again (.builtin "list.__iadd__" ⟨[← newList [], .ref l], []⟩)) _ _ s
  refine wpAny_bind (wpAny_newList (wpAny_pure ⟨Code.quiet_builtin _ (by decide +kernel), codeAny_builtin entry_list_iadd' ?_⟩))
  show wpAny _ _ (Builtin.List.listExtendWith (.ref s.heap.objs.size) (.ref l) (.ref s.heap.objs.size)) _ _ { s with heap := s.heap.push (seqObj "list" #[] 0) }
  unfold Builtin.List.listExtendWith
  have ho' : (s.heap.push (seqObj "list" #[] 0)).get? l = some o := Heap.get?_push_of_some _ ho
  refine wpAny_bind (wpAny_typeOf (T := "tuple") ⟨o, ho', hc⟩ ?_)
  rw [if_pos (by rw [show (Value.type "tuple" == Value.type "tuple") = true from rfl]; simp)]
  refine wpAny_bind (listItems_at ho' hd ?_)
  refine wpAny_bind (listItems_at (xs := #[]) (n := 0) (Heap.get?_push_size _ rfl) rfl ?_)
  rw [if_neg (by simp)]
  refine wpAny_bind (listUpdate_at (xs := #[]) (n := 0) (Heap.get?_push_size _ rfl) rfl ?_ (Nat.zero_le _) (by show (#[] ++ vs.toArray).size ≤ sizeLine + 1; simp only [Array.size_append, List.size_toArray, List.length_nil]; omega))
  refine wpAny_pure ?_
  show wpAny (model prog w) A (do
      let o ← load s.heap.objs.size
      match o.data with
      | .seq xs _ => pure xs.toList
      | _ => unsupported "internal:collect") Q E { s with heap := (s.heap.push (seqObj "list" #[] 0)).update s.heap.objs.size (Obj.mapSeq (· ++ vs.toArray)) }
  refine wpAny_bind (wpAny_load (get?_update_seq (Heap.get?_push_size _ rfl) _) ?_)
  show wpAny _ _ (pure ((#[] : Array Value) ++ vs.toArray).toList) Q E _
  rw [show ((#[] : Array Value) ++ vs.toArray).toList = vs by simp]
  exact wpAny_pure h
theorem sorted_intsT {l : Addr} {vs : List Value} {ns : List Int} {Q : Value → Shared → Prop} (hl : s.heap.IsTuple l vs.toArray) (hz : vs.length ≤ sizeLine) (hI : IntsAre vs ns)
    (h : ∀ out : List Value, SrtO.Srtd SrtO.ltIv out → SrtO.Stb SrtO.ltIv out vs → Q (.ref (s.heap.objs.size + 1)) { s with heap := sortedAll s.heap vs out.toArray }) : wpAny (model prog w) A (call (.builtin "sorted") [.ref l]) Q E s := by
  refine Calls.call_function_entry kind_sorted plain_sorted entry_sorted (args_sorted1 _) ?_
  unfold Builtin.«sorted»
  refine wpAny_bind (m := checkCount "sorted" 1 1 _) (wpAny_pure ?_)
  refine wpAny_bind (collectT hl ?_ hz)
  refine wpAny_bind (wpAny_newList ?_ hz)
  have hsz : ((s.heap.push (seqObj "list" #[] 0)).update s.heap.objs.size (Obj.mapSeq (· ++ vs.toArray))).objs.size = s.heap.objs.size + 1 := by rw [Heap.size_update, size_push']
  have hoL : (((s.heap.push (seqObj "list" #[] 0)).update s.heap.objs.size (Obj.mapSeq (· ++ vs.toArray))).push (seqObj "list" vs.toArray 0)).get? (s.heap.objs.size + 1) = some (seqObj "list" vs.toArray 0) := by
    rw [← hsz]; exact Heap.get?_push_size _ rfl
  show wpAny _ _ _ _ _ { s with heap := ((s.heap.push (seqObj "list" #[] 0)).update s.heap.objs.size (Obj.mapSeq (· ++ vs.toArray))).push (seqObj "list" vs.toArray 0) }
  rw [hsz]
  refine wpAny_bind (wpAny_holding (wpAny_call_entry slot_list_sort ⟨_, hoL, rfl⟩ entry_list_sort (SrtO.list_sort_ord SrtO.swo_int hoL hz (fun h2 => SrtO.ints_sortable hI h2) fun out hs hb => ⟨_, rfl, ?_⟩) (args_list_sort _)))
  exact wpAny_pure ⟨_, rfl, h out hs hb⟩
end
def rSortedIT (K : PySem.W.Frag) : List V → Hp → VK → Prop := fun vs H Q => ∃ (a : Addr) (ns : List Int), vs = [V.ref a] ∧ SqT K H a (ns.map V.int) ∧
  ∀ (ns' : List Int) (p : Addr), ns'.Perm ns → ns'.Pairwise (· ≤ ·) → H p = none → Q (.ref p) (upd H p (.lst (ns'.map V.int)))
theorem cr_sortedIT {X : Cx} : CallR X (.builtin "sorted") (rSortedIT X.K) := by
  intro pins s σ H vs us Q I r h
  obtain ⟨a, ns, rfl, hs, q⟩ := h
  obtain ⟨its, rv, hl, hz⟩ := I.tuple hs
  rw [Vals.ref1 r]
  have hi := rv.ints
  have hTu : s.heap.IsTuple a its.toArray := by obtain ⟨o, ho, hc, n, hd⟩ := hl; exact ⟨o, ho, hc, n, hd⟩
  refine sorted_intsT hTu (by rw [← rv.length]; exact hz) hi fun out h1 h2 => ?_
  obtain ⟨k1, k2, k3⟩ := SrtO.ints_out hi h1 h2
  obtain ⟨ep, he'⟩ := PyProof.Rows.sortedAll_at s.heap its out.toArray
  have hlen : ((out.map SrtO.iv).map V.int).length ≤ sizeLine := by
    rw [List.length_map, k2.length_eq]
    rw [List.length_map] at hz
    exact hz
  exact ⟨.ref _, upd H (s.heap.objs.size + 1) (.lst ((out.map SrtO.iv).map V.int)), I.laid (t' := s.toks) (fun _ _ => PyProof.Rows.sortedAll_old) (Nat.le_succ _) ⟨hlen, out, ep, vals_of_ints k1, he'⟩, rfl, q _ _ k2 k3 (I.hok.fresh (Nat.le_succ _))⟩
theorem srtIT {X : Cx} {K : PySem.W.Frag} (h : X.K = K) : CallR X (.builtin "sorted") (rSortedIT K) := by subst h; exact cr_sortedIT
theorem rbl_sortedT {K : PySem.W.Frag} {ns : List Int} : RBL (rSortedIT K) [eT ns] ((sortI ns).map PyData.int) := fun B H vs Q e q k => by
  cases q with
  | cons q1 q2 =>
    cases q2
    obtain ⟨p, xs, rfl, hb, q⟩ := q1.inv_tup
    have ex := q.ints
    refine ⟨p, ns, rfl, SqT.of (by rw [← ex]; exact e _ _ hb), fun ns' p' h1 h2 hp => ?_⟩
    have := sortI_is h1 h2
    subst this
    exact k p' _ _ hp (Ex.new hp) upd_same (DtAll.of_ints _)
end DL
namespace DL
open PySem L2
open Evl (Ex)
theorem NotOwn.set {σ : Sigma} {ρ : List Sl} {p : Addr} {i : Nat} {v : V} {d : PyData} (h : NotOwn σ ρ p) : NotOwn (σ.set i (some v)) (ρ.set i (.dat d)) p := fun a qb es ha => by
  by_cases hi : i = a
  · subst hi
    by_cases hl : i < ρ.length
    · rw [List.getElem?_set_self hl] at ha; cases ha
    · rw [List.getElem?_eq_none (by simpa using hl)] at ha; cases ha
  · rw [List.getElem?_set_ne hi] at ha ⊢
    exact h a qb es ha
/-- a, b, c, d = (e1, [..], e3, e4): the list is the name's own -/
theorem ss_asg4 {T : TL} {X : XK} {K : PySem.W.Frag} {ρ : List Sl} {t1 t2 t3 t4 : TE} {d1 d3 d4 : PyData} {es : List PyData} {i1 i2 i3 i4 : Nat} (h1 : EE T t1 ρ d1 ρ) (h2 : EL T t2 ρ es ρ) (h3 : EE T t3 ρ d3 ρ) (h4 : EE T t4 ρ d4 ρ) :
    SS T X (tAsg (tTup (tCons t1 (tCons t2 (tCons t3 (tCons t4 tNil))))) (gTup K 4 (gCons (gName i1) (gCons (gName i2) (gCons (gName i3) (gCons (gName i4) gNil)))))) ρ (.nx ((((ρ.set i1 (.dat d1)).set i2 (.own none es)).set i3 (.dat d3)).set i4 (.dat d4))) := fun F W D B H σ E k =>
  h1 F W B H σ _ E fun v1 B1 H1 e1 E1 q1 => h2 F W B1 H1 σ _ E1 fun p xs B2 H2 e2 E2 a1 a2 a3 a4 a5 =>
    h3 _ _ B2 H2 σ _ (E2.hide a1 a3 a5) fun v3 B3 H3 e3 E3 q3 => h4 _ _ B3 H3 σ _ E3 fun v4 B4 H4 e4 E4 q4 => by
      obtain ⟨E5, b1, b2, b3⟩ := Env.unhide a2 E4 E.wf E.ft
      refine ⟨by show 4 ≤ sizeLine; rw [sizeLine_eq]; omega, fun r hr => ?_⟩
      have g := Grow.junk (o := .tup [v1, .ref p, v3, v4]) E5.bh hr
      have E6 := E5.grow g
      have hpr : p ≠ r := fun z => by rw [z, hr] at b2; cases b2
      refine ⟨r, _, rfl, SqT.of upd_same, rfl, ?_⟩
      have E7 := E6.set (i := i1) (q1.mono ((e2.trans e3).trans e4))
      have E8 := E7.setOwn (i := i2) b1 a2 (by rw [upd_ne hpr]; exact b2) (a4.mono (e3.trans e4)) b3.set
      have E9 := (E8.set (i := i3) (q3.mono e4)).set (i := i4) q4
      exact ⟨_, _, rfl, _, _, rfl, _, _, rfl, _, _, rfl, rfl, k _ B4 _ (((e1.trans e2).trans e3).trans e4) E9⟩
end DL
/-! MirA: all numberings, level by level, as the laws make them. -/
namespace U
open PySem L2 DL
def linesTo (w : Wb) (p : Int) : List (Int × Int) := w.2.filter fun q => decide (q.2 ≤ p)
def okExt (w : Wb) (p : Int) (s : List Int) (n : Int) : Bool := !s.contains n && differN (w.1, linesTo w p) (s ++ [n])
def extOf (w : Wb) (top p : Int) (s : List Int) : List (List Int) := ((ri 0 (top + 1).toNat).filter (okExt w p s)).map fun n => s ++ [n]
def allStep (w : Wb) (top : Int) (f : List (List Int)) (p : Int) : List (List Int) := (f.map (extOf w top p)).flatten
def allN (w : Wb) (top : Int) : List (List Int) := (ri 0 w.1.toNat).foldl (allStep w top) [[]]
theorem ext_len (w : Wb) {top : Int} (ht : 0 ≤ top) (p : Int) (s : List Int) : (extOf w top p s).length ≤ (top + 1).toNat := by
  unfold extOf
  rw [List.length_map]
  have := List.length_filter_le (okExt w p s) (ri 0 (top + 1).toNat)
  rw [ri_len] at this
  exact this
theorem flat_len {α β : Type} (g : α → List β) (k : Nat) (h : ∀ a, (g a).length ≤ k) : ∀ l : List α, ((l.map g).flatten).length ≤ l.length * k
  | [] => by simp
  | a :: l => by
    have h1 := h a
    have h2 := flat_len g k h l
    rw [List.map_cons, List.flatten_cons, List.length_append, List.length_cons, Nat.add_mul, Nat.one_mul]
    omega
theorem step_len (w : Wb) {top : Int} (ht : 0 ≤ top) (f : List (List Int)) (p : Int) : (allStep w top f p).length ≤ f.length * (top + 1).toNat := flat_len _ _ (ext_len w ht p) f
theorem fold_len (w : Wb) {top : Int} (ht : 0 ≤ top) : ∀ (ps : List Int) (f : List (List Int)), (ps.foldl (allStep w top) f).length ≤ f.length * (top + 1).toNat ^ ps.length
  | [], f => by simp
  | p :: ps, f => by
    have h1 := step_len w ht f p
    have h2 := fold_len w ht ps (allStep w top f p)
    rw [List.foldl_cons, List.length_cons, Nat.pow_succ, Nat.mul_comm ((top + 1).toNat ^ ps.length), ← Nat.mul_assoc]
    exact Nat.le_trans h2 (Nat.mul_le_mul_right _ h1)
theorem mem_ext {w : Wb} {top p : Int} {s t : List Int} (h : t ∈ extOf w top p s) : ∃ n, t = s ++ [n] ∧ 0 ≤ n ∧ n ≤ top ∧ okExt w p s n = true := by
  unfold extOf at h
  obtain ⟨n, hn, rfl⟩ := List.mem_map.mp h
  obtain ⟨h1, h2⟩ := List.mem_filter.mp hn
  have := mem_ri.mp h1
  exact ⟨n, rfl, by omega, by omega, h2⟩
theorem step_mem {w : Wb} {top p : Int} {f : List (List Int)} {t : List Int} (h : t ∈ allStep w top f p) : ∃ s ∈ f, t ∈ extOf w top p s := by
  unfold allStep at h
  obtain ⟨l, hl, ht⟩ := List.mem_flatten.mp h
  obtain ⟨s, hs, rfl⟩ := List.mem_map.mp hl
  exact ⟨s, hs, ht⟩
theorem fold_each (w : Wb) (top : Int) : ∀ (ps : List Int) (f : List (List Int)) (k : Nat), (∀ s ∈ f, s.length = k) → ∀ s ∈ ps.foldl (allStep w top) f, s.length = k + ps.length
  | [], f, k, h, s, hs => by simpa using h s hs
  | p :: ps, f, k, h, s, hs => by
    rw [List.foldl_cons] at hs
    have := fold_each w top ps (allStep w top f p) (k + 1) (fun t ht => by
      obtain ⟨s, hs, ht⟩ := step_mem ht
      obtain ⟨n, rfl, _⟩ := mem_ext ht
      rw [List.length_append, h s hs]; rfl) s hs
    rw [this, List.length_cons]; omega
end U
/-! Th1: the plain law of numberings: order, membership, renaming, twins. -/
namespace U
open PySem L2 DL
/-! ### the order -/
abbrev Lx (a b : List Int) : Prop := HT.lexLt a b = true
theorem lx_irrefl : ∀ a : List Int, HT.lexLt a a = false
  | [] => rfl
  | x :: a => by rw [HT.lexLt_cons, if_pos rfl]; exact lx_irrefl a
theorem lx_cons {x y : Int} {a b : List Int} : Lx (x :: a) (y :: b) ↔ x < y ∨ (x = y ∧ Lx a b) := by
  unfold Lx
  rw [HT.lexLt_cons]
  by_cases h : x = y
  · rw [if_pos h]; constructor
    · exact fun z => .inr ⟨h, z⟩
    · rintro (z | ⟨_, z⟩)
      · omega
      · exact z
  · rw [if_neg h]; constructor
    · exact fun z => .inl (of_decide_eq_true z)
    · rintro (z | ⟨z, _⟩)
      · exact decide_eq_true z
      · exact absurd z h
theorem lx_trans : ∀ {a b c : List Int}, Lx a b → Lx b c → Lx a c
  | [], [], _, h, _ => by cases h
  | [], _ :: _, [], _, h => by cases h
  | [], _ :: _, _ :: _, _, _ => rfl
  | _ :: _, [], _, h, _ => by cases h
  | _ :: _, _ :: _, [], _, h => by cases h
  | x :: a, y :: b, z :: c, h1, h2 => by
    rw [lx_cons] at h1 h2 ⊢
    rcases h1 with h1 | ⟨h1, h1'⟩ <;> rcases h2 with h2 | ⟨h2, h2'⟩
    · exact .inl (by omega)
    · exact .inl (by omega)
    · exact .inl (by omega)
    · exact .inr ⟨by omega, lx_trans h1' h2'⟩
theorem lx_total : ∀ {a b : List Int}, a ≠ b → Lx a b ∨ Lx b a
  | [], [], h => absurd rfl h
  | [], _ :: _, _ => .inl rfl
  | _ :: _, [], _ => .inr rfl
  | x :: a, y :: b, h => by
    rw [lx_cons, lx_cons]
    rcases Int.lt_trichotomy x y with z | z | z
    · exact .inl (.inl z)
    · subst z
      rcases lx_total (a := a) (b := b) (fun e => h (by rw [e])) with q | q
      · exact .inl (.inr ⟨rfl, q⟩)
      · exact .inr (.inr ⟨rfl, q⟩)
    · exact .inr (.inl z)
theorem lx_not {a b : List Int} (h : Lx a b) : HT.lexLt b a = false := by
  cases e : HT.lexLt b a with
  | false => rfl
  | true =>
    have := lx_trans h e
    rw [Lx, lx_irrefl] at this
    cases this
theorem lx_app (a : List Int) {b c : List Int} (h : Lx b c) : Lx (a ++ b) (a ++ c) := by
  induction a with
  | nil => exact h
  | cons x a ih => exact lx_cons.mpr (.inr ⟨rfl, ih⟩)
theorem lx_lt (a : List Int) {x y : Int} (b c : List Int) (h : x < y) : Lx (a ++ x :: b) (a ++ y :: c) := lx_app a (lx_cons.mpr (.inl h))
theorem lx_same : ∀ {a b : List Int} (c d : List Int), a.length = b.length → Lx a b → Lx (a ++ c) (b ++ d)
  | [], [], _, _, _, h => by cases h
  | [], _ :: _, _, _, h, _ => by cases h
  | _ :: _, [], _, _, h, _ => by cases h
  | x :: a, y :: b, c, d, hl, h => by
    rw [List.cons_append, List.cons_append, lx_cons]
    rcases lx_cons.mp h with h | ⟨h, h'⟩
    · exact .inl h
    · exact .inr ⟨h, lx_same c d (by simpa using hl) h'⟩
/-- the first place at which they differ -/
theorem lx_first : ∀ {a b : List Int} (i : Nat), a.length = b.length → i < a.length → (∀ j, j < i → a.getD j 0 = b.getD j 0) → a.getD i 0 < b.getD i 0 → Lx a b
  | [], _, _, _, h, _, _ => by simp at h
  | _ :: _, [], _, h, _, _, _ => by simp at h
  | x :: a, y :: b, 0, _, _, _, h => lx_cons.mpr (.inl (by simpa using h))
  | x :: a, y :: b, i + 1, hl, hi, hj, h => by
    refine lx_cons.mpr (.inr ⟨by simpa using hj 0 (by omega), lx_first i (by simpa using hl) (by simpa using hi) (fun j hji => ?_) (by simpa using h)⟩)
    simpa using hj (j + 1) (by omega)
theorem head_least {l : List (List Int)} {c d : List Int} (s : l.Pairwise Lx) (h : l.head? = some c) (hd : d ∈ l) : d = c ∨ Lx c d := by
  cases l with
  | nil => cases h
  | cons x l =>
    cases h
    rcases List.mem_cons.mp hd with z | z
    · exact .inl z
    · exact .inr ((List.pairwise_cons.mp s).1 d z)
theorem head_same {l1 l2 : List (List Int)} (s1 : l1.Pairwise Lx) (s2 : l2.Pairwise Lx) (sub : ∀ c ∈ l1, c ∈ l2) (h : ∀ c, l2.head? = some c → c ∈ l1) : l1.head? = l2.head? := by
  cases e : l2.head? with
  | none =>
    have : l2 = [] := List.head?_eq_none_iff.mp e
    subst this
    cases l1 with
    | nil => rfl
    | cons x _ => exact absurd (sub x List.mem_cons_self) (by simp)
  | some c =>
    have hc := h c e
    cases e1 : l1.head? with
    | none =>
      have : l1 = [] := List.head?_eq_none_iff.mp e1
      subst this
      simp at hc
    | some d =>
      rcases head_least s1 e1 hc with z | z
      · rw [z]
      · have hd : d ∈ l1 := List.mem_of_head? e1
        rcases head_least s2 e (sub d hd) with y | y
        · rw [y]
        · rw [Lx, lx_not z] at y; cases y
theorem lx_nodup {l : List (List Int)} (s : l.Pairwise Lx) : l.Nodup := s.imp fun {a b} h e => by subst e; rw [Lx, lx_irrefl] at h; cases h
/-! ### all numberings of the law -/
theorem ri_succ (lo : Int) (n : Nat) : ri lo (n + 1) = ri lo n ++ [lo + n] := by
  unfold ri
  rw [List.range_succ, List.map_append]; rfl
theorem ri_sorted (lo : Int) (n : Nat) : (ri lo n).Pairwise (· < ·) := by
  unfold ri
  rw [List.pairwise_map]
  exact List.pairwise_lt_range.imp fun h => by omega
theorem ext_sorted (w : Wb) (top p : Int) (s : List Int) : (extOf w top p s).Pairwise Lx := by
  unfold extOf
  rw [List.pairwise_map]
  exact ((ri_sorted _ _).filter _).imp fun h => lx_lt s [] [] h
theorem step_sorted {w : Wb} {top p : Int} {f : List (List Int)} {k : Nat} (h : f.Pairwise Lx) (hk : ∀ s ∈ f, s.length = k) : (allStep w top f p).Pairwise Lx := by
  unfold allStep
  rw [List.pairwise_flatten]
  refine ⟨fun l hl => ?_, ?_⟩
  · obtain ⟨s, _, rfl⟩ := List.mem_map.mp hl
    exact ext_sorted w top p s
  · rw [List.pairwise_map]
    refine List.Pairwise.imp_of_mem ?_ h
    intro a b ha hb hab x hx y hy
    obtain ⟨n, rfl, _⟩ := mem_ext hx
    obtain ⟨m, rfl, _⟩ := mem_ext hy
    exact lx_same _ _ ((hk a ha).trans (hk b hb).symm) hab
def lev (w : Wb) (top : Int) (k : Nat) : List (List Int) := (ri 0 k).foldl (allStep w top) [[]]
theorem lev_succ (w : Wb) (top : Int) (k : Nat) : lev w top (k + 1) = allStep w top (lev w top k) k := by
  unfold lev
  rw [ri_succ, List.foldl_append, Int.zero_add]; rfl
theorem lev_len (w : Wb) (top : Int) (k : Nat) : ∀ s ∈ lev w top k, s.length = k := fun s hs => by
  have := fold_each w top (ri 0 k) [[]] 0 (fun s hs => by simp at hs; subst hs; rfl) s hs
  rw [this, ri_len]; omega
theorem lev_sorted (w : Wb) (top : Int) : ∀ k, (lev w top k).Pairwise Lx
  | 0 => by unfold lev; exact List.pairwise_singleton _ _
  | k + 1 => by rw [lev_succ]; exact step_sorted (lev_sorted w top k) (lev_len w top k)
theorem all_sorted (w : Wb) (top : Int) : (allN w top).Pairwise Lx := lev_sorted w top w.1.toNat
theorem at0_app {a b : List Int} {i : Int} (h0 : 0 ≤ i) (h : i < a.length) : at0 (a ++ b) i = at0 a i := by
  unfold at0
  rw [List.getD_eq_getElem?_getD, List.getD_eq_getElem?_getD, List.getElem?_append_left (by omega)]
theorem at0_last (a : List Int) (n : Int) (b : List Int) : at0 (a ++ n :: b) a.length = n := by
  unfold at0
  rw [List.getD_eq_getElem?_getD]
  simp
theorem differ_iff (w : Wb) (ns : List Int) : differN w ns = true ↔ (linesN w ns).Nodup := by
  unfold differN
  rw [decide_eq_true_eq, ← dcount_full]
  have : (linesN w ns).length = w.2.length := by unfold linesN; rw [List.length_map]
  rw [this]
/-- valid as far as the first k places go -/
structure PV (w : Wb) (top : Int) (k : Nat) (b : List Int) : Prop where
  len : b.length = k
  rg : ∀ n ∈ b, 0 ≤ n ∧ n ≤ top
  nd : b.Nodup
  ln : (linesN (w.1, linesTo w ((k : Int) - 1)) b).Nodup
theorem linesTo_ends {w : Wb} (g : GoodW w) {p : Int} : ∀ q ∈ linesTo w p, 0 ≤ q.1 ∧ q.1 < q.2 ∧ q.2 < w.1 ∧ q.2 ≤ p := fun q hq => by
  unfold linesTo at hq
  obtain ⟨h1, h2⟩ := List.mem_filter.mp hq
  have := g.line q h1
  have := of_decide_eq_true h2
  omega
theorem lines_app {w : Wb} (g : GoodW w) {p : Int} {s b : List Int} (h : p < s.length) : linesN (w.1, linesTo w p) (s ++ b) = linesN (w.1, linesTo w p) s := by
  unfold linesN
  refine List.map_congr_left fun q hq => ?_
  have := linesTo_ends g q hq
  rw [at0_app (by omega) (by omega), at0_app (by omega) (by omega)]
theorem linesTo_sub (w : Wb) {p p' : Int} (h : p ≤ p') : (linesTo w p).Sublist (linesTo w p') := by
  have e : linesTo w p = (linesTo w p').filter fun q => decide (q.2 ≤ p) := by
    unfold linesTo
    rw [List.filter_filter]
    refine List.filter_congr fun q _ => ?_
    by_cases z : q.2 ≤ p
    · rw [decide_eq_true z, decide_eq_true (show q.2 ≤ p' by omega)]; rfl
    · rw [decide_eq_false z]; rfl
  rw [e]
  exact List.filter_sublist
theorem PV.take {w : Wb} (g : GoodW w) {top : Int} {k : Nat} {s b : List Int} (h : PV w top k (s ++ b)) : PV w top s.length s where
  len := rfl
  rg := fun n hn => h.rg n (List.mem_append_left _ hn)
  nd := (List.nodup_append.mp h.nd).1
  ln := by
    have hl := h.len
    rw [List.length_append] at hl
    rw [← lines_app g (b := b) (by omega)]
    exact h.ln.sublist ((linesTo_sub w (by omega)).map _)
theorem okExt_iff {w : Wb} {s : List Int} {n : Int} : okExt w s.length s n = true ↔ n ∉ s ∧ (linesN (w.1, linesTo w s.length) (s ++ [n])).Nodup := by
  unfold okExt
  rw [Bool.and_eq_true, differ_iff]
  simp
theorem pv_snoc {w : Wb} (g : GoodW w) {top : Int} {s : List Int} {n : Int} : PV w top (s.length + 1) (s ++ [n]) ↔ PV w top s.length s ∧ 0 ≤ n ∧ n ≤ top ∧ okExt w s.length s n = true := by
  have e : ((s.length + 1 : Nat) : Int) - 1 = s.length := by omega
  constructor
  · intro h
    have r := h.rg n (by simp)
    have nd := List.nodup_append.mp h.nd
    refine ⟨h.take g, r.1, r.2, okExt_iff.mpr ⟨fun hn => nd.2.2 n hn n (by simp) rfl, ?_⟩⟩
    have := h.ln
    rw [e] at this
    exact this
  · rintro ⟨h, h0, h1, h2⟩
    obtain ⟨h3, h4⟩ := okExt_iff.mp h2
    refine ⟨by simp, fun m hm => ?_, ?_, by rw [e]; exact h4⟩
    · rcases List.mem_append.mp hm with z | z
      · exact h.rg m z
      · simp at z; subst z; exact ⟨h0, h1⟩
    · rw [List.nodup_append]
      refine ⟨h.nd, by simp, fun a ha b hb => ?_⟩
      simp at hb
      subst hb
      exact fun z => h3 (z ▸ ha)
theorem snoc_of {b : List Int} {k : Nat} (h : b.length = k + 1) : ∃ s n, b = s ++ [n] ∧ s.length = k := by
  refine ⟨b.dropLast, b.getLast (fun z => by rw [z] at h; cases h), (List.dropLast_concat_getLast _).symm, by rw [List.length_dropLast]; omega⟩
theorem lev_mem {w : Wb} (g : GoodW w) (top : Int) : ∀ (k : Nat) (b : List Int), b ∈ lev w top k ↔ PV w top k b
  | 0, b => by
    unfold lev
    constructor
    · intro h
      have : b = [] := by simpa [ri] using h
      subst this
      have e : linesTo w (((0 : Nat) : Int) - 1) = [] := by
        unfold linesTo
        rw [List.filter_eq_nil_iff]
        intro q hq
        have := g.line q hq
        simp; omega
      exact ⟨rfl, (fun _ h => by cases h), List.nodup_nil, by rw [e]; exact List.nodup_nil⟩
    · intro h
      have : b = [] := List.eq_nil_of_length_eq_zero h.len
      subst this
      simp [ri]
  | k + 1, b => by
    rw [lev_succ]
    constructor
    · intro h
      obtain ⟨s, hs, ht⟩ := step_mem h
      have hl := lev_len w top k s hs
      obtain ⟨n, rfl, h0, h1, h2⟩ := mem_ext ht
      subst hl
      exact (pv_snoc g).mpr ⟨(lev_mem g top _ s).mp hs, h0, h1, h2⟩
    · intro h
      obtain ⟨s, n, rfl, hl⟩ := snoc_of h.len
      subst hl
      obtain ⟨h1, h2, h3, h4⟩ := (pv_snoc g).mp h
      unfold allStep
      refine List.mem_flatten.mpr ⟨extOf w top s.length s, List.mem_map.mpr ⟨s, (lev_mem g top _ s).mpr h1, rfl⟩, ?_⟩
      unfold extOf
      exact List.mem_map.mpr ⟨n, List.mem_filter.mpr ⟨mem_ri.mpr (by omega), h4⟩, rfl⟩
/-- a numbering with a top and different lines -/
structure Val (w : Wb) (top : Int) (c : List Int) : Prop where
  fit : FitsN w top c
  ln : (linesN w c).Nodup
theorem linesTo_all {w : Wb} (g : GoodW w) {p : Int} (h : w.1 - 1 ≤ p) : linesTo w p = w.2 := by
  unfold linesTo
  rw [List.filter_eq_self]
  intro q hq
  have := g.line q hq
  exact decide_eq_true (by omega)
theorem pv_val {w : Wb} (g : GoodW w) {top : Int} {c : List Int} : PV w top w.1.toNat c ↔ Val w top c := by
  have lo := g.lo
  have e : (linesTo w ((w.1.toNat : Int) - 1)) = w.2 := linesTo_all g (by omega)
  constructor
  · intro h
    have := h.ln
    rw [e] at this
    exact ⟨⟨by rw [h.len]; omega, h.rg, h.nd⟩, this⟩
  · intro h
    exact ⟨by have := h.fit.len; omega, h.fit.rg, h.fit.nd, by rw [e]; exact h.ln⟩
theorem all_mem {w : Wb} (g : GoodW w) {top : Int} {c : List Int} : c ∈ allN w top ↔ Val w top c := (lev_mem g top _ c).trans (pv_val g)
theorem val_iff {w : Wb} {top : Int} {c : List Int} : Val w top c ↔ fitsN w top c = true ∧ differN w c = true :=
  ⟨fun h => ⟨of_fits h.fit, (differ_iff w c).mpr h.ln⟩, fun h => ⟨fits_of h.1, (differ_iff w c).mp h.2⟩⟩
/-! ### renaming places -/
def pull (n : Nat) (f : Int → Int) (c : List Int) : List Int := (ri 0 n).map fun i => at0 c (f i)
theorem pull_len (n : Nat) (f : Int → Int) (c : List Int) : (pull n f c).length = n := by unfold pull; rw [List.length_map, ri_len]
theorem at0_pull {n : Nat} {f : Int → Int} {c : List Int} {i : Int} (h0 : 0 ≤ i) (h1 : i < n) : at0 (pull n f c) i = at0 c (f i) := by
  show ((ri 0 n).map fun i => at0 c (f i)).getD i.toNat 0 = _
  unfold ri
  rw [List.map_map, List.getD_eq_getElem?_getD, List.getElem?_map, List.getElem?_range (by omega)]
  show at0 c (f (0 + (i.toNat : Int))) = _
  rw [show (0 : Int) + (i.toNat : Int) = i by omega]
theorem at0_inj {c : List Int} (nd : c.Nodup) {i j : Int} (hi : 0 ≤ i ∧ i < c.length) (hj : 0 ≤ j ∧ j < c.length) (h : at0 c i = at0 c j) : i = j := by
  unfold at0 at h
  rw [List.getD_eq_getElem?_getD, List.getD_eq_getElem?_getD, List.getElem?_eq_getElem (by omega), List.getElem?_eq_getElem (by omega)] at h
  have := (List.getElem_inj nd).mp (by simpa using h)
  omega
/-- f renames the places below n -/
structure Rn (n : Int) (f : Int → Int) : Prop where
  to : ∀ i, 0 ≤ i → i < n → 0 ≤ f i ∧ f i < n
  inj : ∀ i j, 0 ≤ i → i < n → 0 ≤ j → j < n → f i = f j → i = j
theorem nodup_map {α β : Type} {f : α → β} : ∀ {l : List α}, l.Nodup → (∀ x ∈ l, ∀ y ∈ l, f x = f y → x = y) → (l.map f).Nodup
  | [], _, _ => List.nodup_nil
  | x :: l, h, hf => by
    rw [List.map_cons, List.nodup_cons]
    have h' := List.nodup_cons.mp h
    refine ⟨fun hm => ?_, nodup_map h'.2 fun a ha b hb => hf a (List.mem_cons_of_mem _ ha) b (List.mem_cons_of_mem _ hb)⟩
    obtain ⟨y, hy, e⟩ := List.mem_map.mp hm
    have := hf y (List.mem_cons_of_mem _ hy) x List.mem_cons_self e
    exact h'.1 (this ▸ hy)
theorem pull_fits {w : Wb} {top : Int} {c : List Int} {f : Int → Int} (r : Rn w.1 f) (lo : 1 ≤ w.1) (h : FitsN w top c) : FitsN w top (pull w.1.toNat f c) where
  len := by rw [pull_len]; omega
  rg := fun n hn => by
    unfold pull at hn
    obtain ⟨i, hi, rfl⟩ := List.mem_map.mp hn
    have hi := mem_ri.mp hi
    have := r.to i (by omega) (by omega)
    exact h.rg _ (at0_mem this.1 (by have := h.len; omega))
  nd := by
    unfold pull
    refine nodup_map (ri_nodup _ _) fun x hx y hy e => ?_
    have hx := mem_ri.mp hx
    have hy := mem_ri.mp hy
    have tx := r.to x (by omega) (by omega)
    have ty := r.to y (by omega) (by omega)
    have hl := h.len
    exact r.inj x y (by omega) (by omega) (by omega) (by omega) (at0_inj h.nd (by omega) (by omega) e)
theorem iabs_sub (a b : Int) : iabs (a - b) = iabs (b - a) := by unfold iabs; split <;> split <;> omega
def lineR (f : Int → Int) (q : Int × Int) : Int × Int := ordP (f q.1) (f q.2)
theorem lines_pull {w w' : Wb} (g : GoodW w) {c : List Int} {f : Int → Int} : linesN w (pull w.1.toNat f c) = linesN (w.1, w.2.map (lineR f)) c := by
  unfold linesN
  rw [List.map_map]
  refine List.map_congr_left fun q hq => ?_
  have := g.line q hq
  rw [at0_pull (by omega) (by omega), at0_pull (by omega) (by omega)]
  show _ = iabs (at0 c (ordP (f q.1) (f q.2)).1 - at0 c (ordP (f q.1) (f q.2)).2)
  unfold ordP
  split
  · rfl
  · exact iabs_sub _ _
/-- other: the web w with the places renamed by f -/
theorem val_pull {w o : Wb} {top : Int} {c : List Int} {f : Int → Int} (g : GoodW w) (r : Rn w.1 f) (h1 : o.1 = w.1) (h2 : o.2.Perm (w.2.map (lineR f))) (h : Val o top c) : Val w top (pull w.1.toNat f c) where
  fit := pull_fits r g.lo ⟨by rw [← h1]; exact h.fit.len, h.fit.rg, h.fit.nd⟩
  ln := by
    rw [lines_pull (w' := w) g]
    have : (linesN o c).Perm (linesN (w.1, w.2.map (lineR f)) c) := h2.map _
    exact this.nodup_iff.mp h.ln
theorem perm_of_sub {α : Type} [DecidableEq α] : ∀ {l m : List α}, l.Nodup → (∀ x ∈ l, x ∈ m) → m.length ≤ l.length → l.Perm m
  | [], m, _, _, h => by
    have : m = [] := List.eq_nil_of_length_eq_zero (by simpa using h)
    rw [this]
  | x :: l, m, hn, hs, hl => by
    have hx := hs x List.mem_cons_self
    have h' := List.nodup_cons.mp hn
    refine List.Perm.trans (List.Perm.cons x (perm_of_sub h'.2 (fun y hy => ?_) ?_)) (List.perm_cons_erase hx).symm
    · exact (List.mem_erase_of_ne (fun z => h'.1 (by rw [← z]; exact hy))).mpr (hs y (List.mem_cons_of_mem _ hy))
    · rw [List.length_erase_of_mem hx]
      simp at hl
      omega
theorem lines_nodup {w : Wb} (g : GoodW w) : w.2.Nodup := (ascB_iff w.2 g.asc).imp fun {p q} h e => by
  subst e
  rcases (ltPr_iff p p).mp h with z | ⟨_, z⟩ <;> omega
theorem ordP_inj {a b c d : Int} (h : ordP a b = ordP c d) : (a = c ∧ b = d) ∨ (a = d ∧ b = c) := by
  unfold ordP at h
  split at h <;> split at h <;> simp only [Prod.mk.injEq] at h <;> omega
theorem lineR_inj {w : Wb} (g : GoodW w) {f : Int → Int} (r : Rn w.1 f) : ∀ p ∈ w.2, ∀ q ∈ w.2, lineR f p = lineR f q → p = q := fun p hp q hq e => by
  have lp := g.line p hp
  have lq := g.line q hq
  rcases ordP_inj e with ⟨h1, h2⟩ | ⟨h1, h2⟩
  · have a := r.inj _ _ (by omega) (by omega) (by omega) (by omega) h1
    have b := r.inj _ _ (by omega) (by omega) (by omega) (by omega) h2
    exact Prod.ext a b
  · have a := r.inj _ _ (by omega) (by omega) (by omega) (by omega) h1
    have b := r.inj _ _ (by omega) (by omega) (by omega) (by omega) h2
    omega
/-! ### twins -/
def adj (w : Wb) (x y : Int) : Prop := (x, y) ∈ w.2 ∨ (y, x) ∈ w.2
theorem adj_symm {w : Wb} {x y : Int} (h : adj w x y) : adj w y x := h.symm
theorem mem_near {w : Wb} (g : GoodW w) {p x : Int} : x ∈ nearN w p ↔ adj w p x := by
  unfold nearN
  rw [List.mem_map]
  constructor
  · rintro ⟨q, hq, rfl⟩
    obtain ⟨h1, h2⟩ := List.mem_filter.mp hq
    have h2 : p = q.1 ∨ p = q.2 := by simpa using h2
    rcases h2 with rfl | rfl
    · exact .inl (by rw [show q.1 + q.2 - q.1 = q.2 by omega]; exact h1)
    · exact .inr (by rw [show q.1 + q.2 - q.2 = q.1 by omega]; exact h1)
  · rintro (h | h)
    · exact ⟨(p, x), List.mem_filter.mpr ⟨h, by simp⟩, by simp; omega⟩
    · exact ⟨(x, p), List.mem_filter.mpr ⟨h, by simp⟩, by simp⟩
theorem adj_ne {w : Wb} (g : GoodW w) {x y : Int} (h : adj w x y) : x ≠ y ∧ (0 ≤ x ∧ x < w.1) ∧ (0 ≤ y ∧ y < w.1) := by
  rcases h with h | h
  · have := g.line _ h
    simp at this; omega
  · have := g.line _ h
    simp at this; omega
theorem mem_ordP {w : Wb} (g : GoodW w) {x y : Int} (h : adj w x y) : ordP x y ∈ w.2 := by
  unfold ordP
  rcases h with h | h
  · have := g.line _ h
    simp at this
    rw [if_pos (by omega)]; exact h
  · have := g.line _ h
    simp at this
    rw [if_neg (by omega)]; exact h
theorem near_nodup {w : Wb} (g : GoodW w) (p : Int) : (nearN w p).Nodup := by
  unfold nearN
  refine nodup_map ((lines_nodup g).filter _) fun a ha b hb e => ?_
  obtain ⟨a1, a2⟩ := List.mem_filter.mp ha
  obtain ⟨b1, b2⟩ := List.mem_filter.mp hb
  have la := g.line a a1
  have lb := g.line b b1
  have a2 : p = a.1 ∨ p = a.2 := by simpa using a2
  have b2 : p = b.1 ∨ p = b.2 := by simpa using b2
  exact Prod.ext (by omega) (by omega)
theorem sortI_eq_iff {a b : List Int} : sortI a = sortI b ↔ a.Perm b :=
  ⟨fun h => (sortI_perm a).symm.trans (h ▸ sortI_perm b), fun h => sortI_is ((sortI_perm a).trans h) (sortI_sorted a)⟩
theorem twin_iff {w : Wb} (g : GoodW w) {a b : Int} : twinN w a b = true ↔ ∀ x, x ≠ a → x ≠ b → (adj w a x ↔ adj w b x) := by
  unfold twinN
  rw [decide_eq_true_eq, sortI_eq_iff]
  have m1 : ∀ x, x ∈ ((nearN w a).filter fun x => !decide (x = b)) ↔ adj w a x ∧ x ≠ b := fun x => by
    rw [List.mem_filter, mem_near g]; simp
  have m2 : ∀ x, x ∈ ((nearN w b).filter fun x => !decide (x = a)) ↔ adj w b x ∧ x ≠ a := fun x => by
    rw [List.mem_filter, mem_near g]; simp
  constructor
  · intro h x xa xb
    constructor
    · intro z; exact ((m2 x).mp (h.mem_iff.mp ((m1 x).mpr ⟨z, xb⟩))).1
    · intro z; exact ((m1 x).mp (h.mem_iff.mpr ((m2 x).mpr ⟨z, xa⟩))).1
  · intro h
    have s : ∀ x, x ∈ ((nearN w a).filter fun x => !decide (x = b)) ↔ x ∈ ((nearN w b).filter fun x => !decide (x = a)) := fun x => by
      rw [m1, m2]
      constructor
      · rintro ⟨z, zb⟩
        have za := (adj_ne g z).1
        exact ⟨(h x za.symm zb).mp z, za.symm⟩
      · rintro ⟨z, za⟩
        have zb := (adj_ne g z).1
        exact ⟨(h x za zb.symm).mpr z, zb.symm⟩
    have n1 := (near_nodup g a).filter fun x => !decide (x = b)
    have n2 := (near_nodup g b).filter fun x => !decide (x = a)
    exact perm_of_sub n1 (fun x hx => (s x).mp hx) (len_le_of_sub n2 fun x hx => (s x).mpr hx)
def tau (t p x : Int) : Int := if x = t then p else if x = p then t else x
theorem tau_tau (t p x : Int) : tau t p (tau t p x) = x := by unfold tau; (repeat' split) <;> omega
theorem tau_rn {n t p : Int} (ht : 0 ≤ t ∧ t < n) (hp : 0 ≤ p ∧ p < n) : Rn n (tau t p) where
  to := fun i h0 h1 => by unfold tau; (repeat' split) <;> omega
  inj := fun i j _ _ _ _ h => by rw [← tau_tau t p i, h, tau_tau]
theorem tau_adj {w : Wb} (g : GoodW w) {t p : Int} (h : twinN w t p = true) {x y : Int} (ha : adj w x y) : adj w (tau t p x) (tau t p y) := by
  have hh := (twin_iff g).mp h
  have ne := (adj_ne g ha).1
  unfold tau
  by_cases xt : x = t
  · subst xt
    rw [if_pos rfl]
    by_cases yp : y = p
    · subst yp
      rw [if_neg (fun z => ne z.symm), if_pos rfl]
      exact adj_symm ha
    · rw [if_neg (fun z => ne z.symm), if_neg yp]
      exact (hh y (fun z => ne z.symm) yp).mp ha
  · rw [if_neg xt]
    by_cases xp : x = p
    · subst xp
      rw [if_pos rfl]
      by_cases yt : y = t
      · subst yt
        rw [if_pos rfl]; exact adj_symm ha
      · rw [if_neg yt, if_neg (fun z => ne z.symm)]
        exact (hh y yt (fun z => ne z.symm)).mpr ha
    · rw [if_neg xp]
      by_cases yt : y = t
      · subst yt
        rw [if_pos rfl]
        exact adj_symm ((hh x xt xp).mp (adj_symm ha))
      · rw [if_neg yt]
        by_cases yp : y = p
        · subst yp
          rw [if_pos rfl]
          exact adj_symm ((hh x xt xp).mpr (adj_symm ha))
        · rw [if_neg yp]; exact ha
theorem tau_perm {w : Wb} (g : GoodW w) {t p : Int} (ht : 0 ≤ t ∧ t < w.1) (hp : 0 ≤ p ∧ p < w.1) (h : twinN w t p = true) : w.2.Perm (w.2.map (lineR (tau t p))) :=
  (perm_of_sub (nodup_map (lines_nodup g) (lineR_inj g (tau_rn ht hp))) (fun x hx => by
    obtain ⟨q, hq, rfl⟩ := List.mem_map.mp hx
    exact mem_ordP g (tau_adj g h (.inl hq))) (by rw [List.length_map]; exact Nat.le_refl _)).symm
theorem val_swap {w : Wb} (g : GoodW w) {t p top : Int} {c : List Int} (ht : 0 ≤ t ∧ t < w.1) (hp : 0 ≤ p ∧ p < w.1) (h : twinN w t p = true) (v : Val w top c) : Val w top (pull w.1.toNat (tau t p) c) :=
  val_pull g (tau_rn ht hp) rfl (tau_perm g ht hp h) v
theorem twin_symm {w : Wb} (g : GoodW w) {a b : Int} (h : twinN w a b = true) : twinN w b a = true :=
  (twin_iff g).mpr fun x xb xa => ((twin_iff g).mp h x xa xb).symm
theorem twin_trans {w : Wb} (g : GoodW w) {a b c : Int} (hac : a ≠ c) (h1 : twinN w a b = true) (h2 : twinN w b c = true) : twinN w a c = true := by
  by_cases ab : a = b
  · subst ab; exact h2
  by_cases bc : b = c
  · subst bc; exact h1
  have h1 := (twin_iff g).mp h1
  have h2 := (twin_iff g).mp h2
  refine (twin_iff g).mpr fun x xa xc => ?_
  by_cases xb : x = b
  · subst xb
    constructor
    · intro z
      have z1 : adj w a x := z
      -- x = b: adj a b; c: adj b a -> adj c a -> adj a c -> adj b c
      have z2 : adj w c a := (h2 a (fun e => ab e) (fun e => hac e)).mp (adj_symm z1)
      have z3 : adj w x c := (h1 c (fun e => hac e.symm) (fun e => bc e.symm)).mp (adj_symm z2)
      exact adj_symm z3
    · intro z
      have z2 : adj w a c := (h1 c (fun e => hac e.symm) (fun e => bc e.symm)).mpr (adj_symm z)
      have z3 : adj w x a := (h2 a (fun e => ab e) (fun e => hac e)).mpr (adj_symm z2)
      exact adj_symm z3
  · exact (h1 x xa xb).trans (h2 x xb xc)
end U
/-! Th2: the pruned search finds the first numbering. -/
namespace U
open PySem L2 DL
def treeN (pl : Pl) (top fixed : Int) : Nat → List Int → List Int → List (List Int)
  | 0, b, _ => if b.length = pl.length then [b] else []
  | d + 1, b, used => if b.length = pl.length then [b] else (nextN pl top b fixed used).flatMap fun x => treeN pl top fixed d x.1 x.2
theorem firstIn_head (pl : Pl) (top fixed : Int) : ∀ (d : Nat) (b used : List Int), firstIn pl top fixed d b used = (treeN pl top fixed d b used).head?
  | 0, b, used => by unfold firstIn treeN; split <;> rfl
  | d + 1, b, used => by
    unfold firstIn treeN
    split
    · rfl
    · rw [List.head?_flatMap]
      congr 1
      funext x
      exact firstIn_head pl top fixed d x.1 x.2
theorem next_mem_iff {pl : Pl} {top fixed : Int} {b used : List Int} {x : List Int × List Int} : x ∈ nextN pl top b fixed used ↔ ∃ n, x = (b ++ [n], used ++ diffs (plAt pl b.length).1 b n) ∧ lowN (plAt pl b.length).2 b fixed < n ∧ n ≤ top ∧ okNext (plAt pl b.length) b used n = true := by
  unfold nextN
  rw [List.mem_map]
  constructor
  · rintro ⟨n, hn, rfl⟩
    obtain ⟨h1, h2⟩ := List.mem_filter.mp hn
    have := mem_ri.mp h1
    exact ⟨n, rfl, by omega, by omega, h2⟩
  · rintro ⟨n, rfl, h1, h2, h3⟩
    exact ⟨n, List.mem_filter.mpr ⟨mem_ri.mpr (by omega), h3⟩, rfl⟩
theorem tree_pre (pl : Pl) (top fixed : Int) : ∀ (d : Nat) (b used c : List Int), c ∈ treeN pl top fixed d b used → ∃ r, c = b ++ r
  | 0, b, used, c, h => by
    unfold treeN at h
    split at h
    · exact ⟨[], by simpa using h⟩
    · cases h
  | d + 1, b, used, c, h => by
    unfold treeN at h
    split at h
    · exact ⟨[], by simpa using h⟩
    · obtain ⟨x, hx, hc⟩ := List.mem_flatMap.mp h
      obtain ⟨n, rfl, _⟩ := next_mem_iff.mp hx
      obtain ⟨r, rfl⟩ := tree_pre pl top fixed d _ _ c hc
      exact ⟨n :: r, by simp⟩
theorem tree_sorted (pl : Pl) (top fixed : Int) : ∀ (d : Nat) (b used : List Int), (treeN pl top fixed d b used).Pairwise Lx
  | 0, b, used => by
    unfold treeN
    split
    · exact List.pairwise_singleton _ _
    · exact List.Pairwise.nil
  | d + 1, b, used => by
    unfold treeN
    split
    · exact List.pairwise_singleton _ _
    · rw [List.flatMap_def, List.pairwise_flatten]
      refine ⟨fun l hl => ?_, ?_⟩
      · obtain ⟨x, _, rfl⟩ := List.mem_map.mp hl
        exact tree_sorted pl top fixed d _ _
      · rw [List.pairwise_map]
        unfold nextN
        rw [List.pairwise_map]
        refine ((ri_sorted _ _).filter _).imp fun {m n} h x hx y hy => ?_
        obtain ⟨r, rfl⟩ := tree_pre pl top fixed d _ _ x hx
        obtain ⟨s, rfl⟩ := tree_pre pl top fixed d _ _ y hy
        simp only [List.append_assoc, List.singleton_append]
        exact lx_lt b r s h
/-! ### the plan -/
theorem planN_len' (v : Wb) : (planN v).length = v.1.toNat := by unfold planN; rw [List.length_map, ri_len]
theorem planN_at' (v : Wb) {i : Nat} (h : i < v.1.toNat) : plAt (planN v) i = planAt v i := by
  unfold plAt planN ri
  rw [List.getD_eq_getElem?_getD, List.getElem?_map, List.getElem?_map, List.getElem?_range h]
  show planAt v (0 + (i : Int)) = _
  rw [Int.zero_add]
theorem plan_near {w : Wb} (g : GoodW w) (p : Int) : (planAt w p).1 = (w.2.filter fun q => decide (q.2 = p)).map fun q => q.1 := by
  unfold planAt nearN
  show List.filter _ (List.map _ (List.filter _ w.2)) = _
  rw [List.filter_map, List.filter_filter]
  have hf : (w.2.filter fun q => ((fun o => decide (o < p)) ∘ fun q : Int × Int => q.1 + q.2 - p) q && [q.1, q.2].contains p) = w.2.filter fun q => decide (q.2 = p) := by
    refine List.filter_congr fun q hq => ?_
    have := g.line q hq
    rw [Bool.eq_iff_iff]
    simp
    omega
  rw [hf]
  refine List.map_congr_left fun q hq => ?_
  have := of_decide_eq_true (List.mem_filter.mp hq).2
  omega
theorem used_snoc {w : Wb} (g : GoodW w) {b : List Int} {n : Int} (h : b.length < w.1.toNat) : usedN (planN w) (b ++ [n]) = usedN (planN w) b ++ diffs (plAt (planN w) b.length).1 b n := by
  have near : ∀ i, i < w.1.toNat → ∀ x ∈ (plAt (planN w) i).1, 0 ≤ x ∧ x < (i : Int) := fun i hi x hx => by
    rw [planN_at' w hi, plan_near g] at hx
    obtain ⟨q, hq, rfl⟩ := List.mem_map.mp hx
    obtain ⟨h1, h2⟩ := List.mem_filter.mp hq
    have := g.line q h1
    have := of_decide_eq_true h2
    omega
  have dsame : ∀ (ps : List Int) (m : Int), (∀ x ∈ ps, 0 ≤ x ∧ x < (b.length : Int)) → diffs ps (b ++ [n]) m = diffs ps b m := fun ps m hp => by
    unfold diffs
    refine List.map_congr_left fun x hx => ?_
    have := hp x hx
    rw [at0_app (by omega) (by omega)]
  unfold usedN
  rw [List.length_append, List.length_singleton, List.range_succ, List.foldl_append]
  show _ ++ diffs _ (b ++ [n]) _ = _
  have e1 : (b ++ [n]).getD b.length 0 = n := by simp
  rw [e1, dsame _ _ (near b.length h)]
  congr 1
  have : ∀ (is : List Nat) (l : List Int), (∀ i ∈ is, i < b.length) → is.foldl (fun l i => l ++ diffs (plAt (planN w) i).1 (b ++ [n]) ((b ++ [n]).getD i 0)) l = is.foldl (fun l i => l ++ diffs (plAt (planN w) i).1 b (b.getD i 0)) l := by
    intro is
    induction is with
    | nil => intros; rfl
    | cons i is ih =>
      intro l hi
      have hib := hi i List.mem_cons_self
      rw [List.foldl_cons, List.foldl_cons, dsame _ _ (fun x hx => by have := near i (by omega) x hx; omega), show (b ++ [n]).getD i 0 = b.getD i 0 by rw [List.getD_eq_getElem?_getD, List.getD_eq_getElem?_getD, List.getElem?_append_left hib]]
      exact ih _ fun j hj => hi j (List.mem_cons_of_mem _ hj)
  exact this _ _ fun i hi => List.mem_range.mp hi
theorem linesTo_split (w : Wb) (p : Int) : (linesTo w p).Perm (linesTo w (p - 1) ++ w.2.filter fun q => decide (q.2 = p)) := by
  unfold linesTo
  induction w.2 with
  | nil => exact List.Perm.refl _
  | cons q l ih =>
    by_cases h1 : q.2 = p
    · rw [List.filter_cons_of_pos (by simp; omega), List.filter_cons_of_neg (by simp; omega), List.filter_cons_of_pos (by simp [h1])]
      exact (ih.cons q).trans List.perm_middle.symm
    · by_cases h2 : q.2 ≤ p
      · rw [List.filter_cons_of_pos (by simp [h2]), List.filter_cons_of_pos (by simp; omega), List.filter_cons_of_neg (by simp [h1])]
        exact ih.cons q
      · rw [List.filter_cons_of_neg (by simp; omega), List.filter_cons_of_neg (by simp; omega), List.filter_cons_of_neg (by simp [h1])]
        exact ih
theorem used_perm {w : Wb} (g : GoodW w) : ∀ (k : Nat) (b : List Int), b.length = k → k ≤ w.1.toNat → (usedN (planN w) b).Perm (linesN (w.1, linesTo w ((k : Int) - 1)) b)
  | 0, b, hb, _ => by
    have : b = [] := List.eq_nil_of_length_eq_zero hb
    subst this
    have e : linesTo w (((0 : Nat) : Int) - 1) = [] := by
      unfold linesTo
      rw [List.filter_eq_nil_iff]
      intro q hq
      have := g.line q hq
      simp; omega
    rw [e]
    exact List.Perm.refl _
  | k + 1, b, hb, hk => by
    obtain ⟨s, n, rfl, hs⟩ := snoc_of hb
    subst hs
    rw [used_snoc g (by omega), planN_at' w (by omega), plan_near g]
    have ih := used_perm g s.length s rfl (by omega)
    have e : ((s.length + 1 : Nat) : Int) - 1 = s.length := by omega
    rw [e]
    have sp := (linesTo_split w s.length).map fun q => iabs (at0 (s ++ [n]) q.1 - at0 (s ++ [n]) q.2)
    refine List.Perm.trans ?_ sp.symm
    rw [List.map_append]
    refine List.Perm.append ?_ ?_
    · have : linesN (w.1, linesTo w ((s.length : Int) - 1)) (s ++ [n]) = linesN (w.1, linesTo w ((s.length : Int) - 1)) s := lines_app g (by omega)
      exact ih.trans (by rw [← this]; exact List.Perm.refl _)
    · unfold diffs
      rw [List.map_map]
      refine List.Perm.of_eq (List.map_congr_left fun q hq => ?_)
      obtain ⟨h1, h2⟩ := List.mem_filter.mp hq
      have := g.line q h1
      have h2 := of_decide_eq_true h2
      show iabs (at0 s q.1 - n) = _
      rw [h2, at0_last, at0_app (by omega) (by omega)]
theorem low_iff {tw b : List Int} {fixed n : Int} : lowN tw b fixed < n ↔ 0 ≤ n ∧ ∀ t ∈ tw, fixed ≤ t → at0 b t < n := by
  unfold lowN
  constructor
  · intro h
    have hg := fmax_ge ((tw.filter fun t => decide (fixed ≤ t)).map (at0 b)) (-1)
    refine ⟨by omega, fun t ht hf => ?_⟩
    have := hg.2 (at0 b t) (List.mem_map.mpr ⟨t, List.mem_filter.mpr ⟨ht, decide_eq_true hf⟩, rfl⟩)
    omega
  · rintro ⟨h0, h1⟩
    rcases fmax_mem ((tw.filter fun t => decide (fixed ≤ t)).map (at0 b)) (-1) with h | h
    · omega
    · obtain ⟨t, ht, e⟩ := List.mem_map.mp h
      obtain ⟨h2, h3⟩ := List.mem_filter.mp ht
      rw [← e]
      exact h1 t h2 (of_decide_eq_true h3)
theorem okNext_iff {w : Wb} (g : GoodW w) {b : List Int} {n : Int} (h : b.length < w.1.toNat) : okNext (plAt (planN w) b.length) b (usedN (planN w) b) n = true ↔ okExt w b.length b n = true := by
  rw [okExt_iff]
  unfold okNext
  rw [Bool.and_eq_true, decide_eq_true_eq, dcount_full, ← used_snoc g h]
  have := (used_perm g (b.length + 1) (b ++ [n]) (by simp) (by omega)).nodup_iff
  rw [show ((b.length + 1 : Nat) : Int) - 1 = b.length by omega] at this
  rw [this]
  simp
/-- twins behind fixed have ascending numbers, from place k on -/
def Canon (w : Wb) (fixed k : Int) (c : List Int) : Prop := ∀ p, k ≤ p → p < w.1 → ∀ t, 0 ≤ t → fixed ≤ t → t < p → twinN w t p = true → at0 c t < at0 c p
theorem tree_mem {w : Wb} (g : GoodW w) {top fixed : Int} : ∀ (d : Nat) (b : List Int), b.length + d = w.1.toNat → PV w top b.length b →
    ∀ c, c ∈ treeN (planN w) top fixed d b (usedN (planN w) b) ↔ (∃ r, c = b ++ r) ∧ Val w top c ∧ Canon w fixed b.length c
  | 0, b, hd, pv, c => by
    have hl : b.length = w.1.toNat := by omega
    unfold treeN
    rw [planN_len', if_pos hl, List.mem_singleton]
    constructor
    · rintro rfl
      rw [hl] at pv
      refine ⟨⟨[], by simp⟩, (pv_val g).mp pv, fun p h1 h2 => by omega⟩
    · rintro ⟨⟨r, rfl⟩, v, _⟩
      have := v.fit.len
      rw [List.length_append] at this
      have hr : r = [] := List.eq_nil_of_length_eq_zero (by omega)
      rw [hr, List.append_nil]
  | d + 1, b, hd, pv, c => by
    have hl : b.length < w.1.toNat := by omega
    have lo := g.lo
    unfold treeN
    rw [planN_len', if_neg (by omega), List.mem_flatMap]
    have twm : ∀ t, t ∈ (plAt (planN w) b.length).2 ↔ (0 ≤ t ∧ t < (b.length : Int)) ∧ twinN w t b.length = true := fun t => by
      rw [planN_at' w hl]
      unfold planAt
      rw [List.mem_filter, mem_ri]
      constructor
      · rintro ⟨h1, h2⟩; exact ⟨by omega, h2⟩
      · rintro ⟨h1, h2⟩; exact ⟨by omega, h2⟩
    constructor
    · rintro ⟨x, hx, hc⟩
      obtain ⟨n, rfl, h1, h2, h3⟩ := next_mem_iff.mp hx
      obtain ⟨h0, h1⟩ := low_iff.mp h1
      have pv' := (pv_snoc g (top := top) (s := b) (n := n)).mpr ⟨pv, h0, h2, (okNext_iff g hl).mp h3⟩
      rw [← used_snoc g hl] at hc
      have hc : c ∈ treeN (planN w) top fixed d (b ++ [n]) (usedN (planN w) (b ++ [n])) := hc
      have ih := (tree_mem g (top := top) (fixed := fixed) d (b ++ [n]) (by simp; omega) (by simpa using pv') c).mp hc
      obtain ⟨⟨r, rfl⟩, v, cn⟩ := ih
      refine ⟨⟨n :: r, by simp⟩, v, fun p hp hp2 t t0 tf tp tw => ?_⟩
      by_cases e : p = b.length
      · subst e
        have := h1 t ((twm t).mpr ⟨⟨t0, tp⟩, tw⟩) tf
        rw [List.append_assoc, List.singleton_append, at0_last, at0_app (by omega) (by omega)]
        exact this
      · exact cn p (by simp; omega) hp2 t t0 tf tp tw
    · rintro ⟨⟨r, rfl⟩, v, cn⟩
      cases r with
      | nil =>
        have := v.fit.len
        simp at this
        omega
      | cons n r =>
        have pvc : PV w top w.1.toNat ((b ++ [n]) ++ r) := by
          have := (pv_val g).mpr v
          simpa using this
        have pv' := pvc.take g
        have pv'' : PV w top (b.length + 1) (b ++ [n]) := by simpa using pv'
        obtain ⟨_, h0, h2, h3⟩ := (pv_snoc g).mp pv''
        refine ⟨(b ++ [n], usedN (planN w) b ++ diffs (plAt (planN w) b.length).1 b n), next_mem_iff.mpr ⟨n, rfl, low_iff.mpr ⟨h0, fun t ht tf => ?_⟩, h2, (okNext_iff g hl).mpr h3⟩, ?_⟩
        · obtain ⟨⟨t0, t1⟩, tw⟩ := (twm t).mp ht
          have := cn b.length (by omega) (by omega) t t0 tf t1 tw
          rw [at0_last, at0_app (by omega) (by omega)] at this
          exact this
        · rw [← used_snoc g hl]
          refine (tree_mem g (top := top) (fixed := fixed) d (b ++ [n]) (by simp; omega) pv' _).mpr ⟨⟨r, by simp⟩, v, fun p hp hp2 t t0 tf tp tw => cn p (by simp at hp; omega) hp2 t t0 tf tp tw⟩
/-- swapping two twins that stand the wrong way gives a lesser one -/
theorem swap_less {w : Wb} {t p : Int} {c : List Int} (hc : (c.length : Int) = w.1) (ht : 0 ≤ t) (htp : t < p) (hp : p < w.1) (h : at0 c p < at0 c t) : Lx (pull w.1.toNat (tau t p) c) c := by
  have key : ∀ j : Nat, (j : Int) < w.1 → (pull w.1.toNat (tau t p) c).getD j 0 = at0 c (tau t p j) := fun j hj => by
    have := at0_pull (n := w.1.toNat) (f := tau t p) (c := c) (i := (j : Int)) (by omega) (by omega)
    rw [← this]
    rfl
  refine lx_first t.toNat (by rw [pull_len]; omega) (by rw [pull_len]; omega) (fun j hj => ?_) ?_
  · rw [key j (by omega)]
    unfold tau
    rw [if_neg (by omega), if_neg (by omega)]
    rfl
  · rw [key t.toNat (by omega)]
    unfold tau
    rw [if_pos (by omega)]
    exact h
theorem swap_pre {w : Wb} {t p : Int} {b r : List Int} (hc : ((b ++ r).length : Int) = w.1) (ht : (b.length : Int) ≤ t) (htp : t < p) : ∃ r', pull w.1.toNat (tau t p) (b ++ r) = b ++ r' := by
  refine ⟨(pull w.1.toNat (tau t p) (b ++ r)).drop b.length, ?_⟩
  have : (pull w.1.toNat (tau t p) (b ++ r)).take b.length = b := by
    refine List.ext_getElem? fun i => ?_
    by_cases hi : i < b.length
    · rw [List.getElem?_take_of_lt hi]
      rw [List.length_append] at hc
      have := at0_pull (n := w.1.toNat) (f := tau t p) (c := b ++ r) (i := (i : Int)) (by omega) (by omega)
      have e : tau t p i = i := by unfold tau; rw [if_neg (by omega), if_neg (by omega)]
      rw [e, at0_app (by omega) (by omega)] at this
      unfold at0 at this
      rw [List.getD_eq_getElem?_getD, List.getD_eq_getElem?_getD] at this
      have l1 : (i : Int).toNat < (pull w.1.toNat (tau t p) (b ++ r)).length := by rw [pull_len]; omega
      rw [List.getElem?_eq_getElem l1, List.getElem?_eq_getElem (by omega)] at this
      have l2 : i < (pull w.1.toNat (tau t p) (b ++ r)).length := by rw [pull_len]; omega
      rw [List.getElem?_eq_getElem l2, List.getElem?_eq_getElem hi]
      simpa using this
    · rw [List.getElem?_eq_none (by simp; omega), List.getElem?_eq_none (by omega)]
  have e := List.take_append_drop b.length (pull w.1.toNat (tau t p) (b ++ r))
  rw [this] at e
  exact e.symm
theorem swap_ne {w : Wb} {top t p : Int} {c : List Int} (v : Val w top c) (ht : 0 ≤ t) (htp : t < p) (hp : p < w.1) : at0 c t < at0 c p ∨ at0 c p < at0 c t := by
  have hl := v.fit.len
  have : at0 c t ≠ at0 c p := fun e => by have := at0_inj v.fit.nd (by omega) (by omega) e; omega
  omega
/-- those that begin with b -/
def begins (w : Wb) (top : Int) (b : List Int) : List (List Int) := (allN w top).filter fun c => decide (c.take b.length = b)
theorem begins_mem {w : Wb} (g : GoodW w) {top : Int} {b c : List Int} : c ∈ begins w top b ↔ (∃ r, c = b ++ r) ∧ Val w top c := by
  unfold begins
  rw [List.mem_filter, all_mem g, decide_eq_true_eq]
  constructor
  · rintro ⟨h1, h2⟩
    have e := List.take_append_drop b.length c
    rw [h2] at e
    exact ⟨⟨c.drop b.length, e.symm⟩, h1⟩
  · rintro ⟨⟨r, rfl⟩, h⟩
    exact ⟨h, by simp⟩
theorem begins_sorted (w : Wb) (top : Int) (b : List Int) : (begins w top b).Pairwise Lx := (all_sorted w top).filter _
/-- the search tells the first one -/
theorem first_is {w : Wb} (g : GoodW w) {top : Int} {b : List Int} (pv : PV w top b.length b) (hb : b.length ≤ w.1.toNat) : firstFrom w top b = (begins w top b).head? := by
  unfold firstFrom
  rw [firstIn_head]
  refine head_same (tree_sorted _ _ _ _ _ _) (begins_sorted w top b) (fun c hc => ?_) (fun c hc => ?_)
  · have := (tree_mem g (w.1.toNat - b.length) b (by omega) pv c).mp hc
    exact (begins_mem g).mpr ⟨this.1, this.2.1⟩
  · obtain ⟨⟨r, rfl⟩, v⟩ := (begins_mem g).mp (List.mem_of_head? hc)
    refine (tree_mem g (w.1.toNat - b.length) b (by omega) pv _).mpr ⟨⟨r, rfl⟩, v, fun p hp hp2 t t0 tf tp tw => ?_⟩
    rcases swap_ne v t0 tp hp2 with h | h
    · exact h
    · have less := swap_less v.fit.len t0 tp hp2 h
      have hl := v.fit.len
      obtain ⟨r', e⟩ := swap_pre hl tf tp
      have v' := val_swap g ⟨t0, by omega⟩ ⟨by omega, hp2⟩ tw v
      have := head_least (begins_sorted w top b) hc ((begins_mem g).mpr ⟨⟨r', e⟩, v'⟩)
      rcases this with z | z
      · rw [z, Lx, lx_irrefl] at less; cases less
      · rw [Lx, lx_not z] at less; cases less
theorem first_all {w : Wb} (g : GoodW w) (top : Int) : firstFrom w top [] = (allN w top).head? := by
  rw [first_is g ((lev_mem g top 0 []).mp (by unfold lev; simp [ri])) (Nat.zero_le _)]
  unfold begins
  congr 1
  rw [List.filter_eq_self]
  intro c _
  simp
end U
/-! ShT: lists of numberings and optional numberings as data. -/
namespace U
open PySem L2 DL
abbrev eTs (ms : List (List Int)) : PyData := .list (ms.map eT)
theorem pl_eTs (ms : List (List Int)) : pl (eTs ms) = true := by show pl (.list _) = true; unfold pl; exact plAll_map ms fun _ _ => pl_eT _
theorem dp_eTs (ms : List (List Int)) : (eTs ms).depth ≤ 2 := by
  show (PyData.list (ms.map eT)).depth ≤ 2
  have := depthAll_map (f := eT) (n := 1) ms fun x _ => dp_eT x
  simp only [PyData.depth]
  omega
theorem sh_eTs (ms : List (List Int)) : SeqAt.shaped (eTs ms) = true := shaped_of (pl_eTs ms) (Nat.le_trans (dp_eTs ms) (by decide))
theorem sh_nil : SeqAt.shaped (.list []) = true := sh_eTs []
theorem sh_niT : SeqAt.shaped (.tuple []) = true := sh_eT []
theorem sh_none : SeqAt.shaped .none = true := shaped_of (by simp [pl]) (by simp [PyData.depth])
theorem eTs_inj {a b : List (List Int)} (h : eTs a = eTs b) : a = b := map_inj (fun _ _ => eT_inj) (by simpa [eTs] using h)
theorem eqv_eTs (a b : List (List Int)) : PyData.eqv (eTs a) (eTs b) = decide (a = b) := eqv_dec (f := eTs) pl_eTs (fun _ _ => eTs_inj) a b
theorem any_eT (p : List Int) : ∀ ps : List (List Int), ((ps.map eT).any fun z => PyData.eqv z (eT p)) = ps.contains p
  | [] => rfl
  | q :: ps => by
    rw [List.map_cons, List.any_cons, any_eT p ps, eqv_eT, List.contains_cons]
    congr 1
    by_cases h : q = p
    · rw [decide_eq_true h, h, beq_self_eq_true]
    · rw [decide_eq_false h, beq_eq_false_iff_ne.mpr fun z => h z.symm]
theorem pl_optD : ∀ o, pl (optD o) = true
  | none => by simp [optD, pl]
  | some b => pl_eT b
theorem dp_optD : ∀ o, (optD o).depth ≤ 1
  | none => by simp [optD, PyData.depth]
  | some b => dp_eT b
theorem sh_optD (o : Option (List Int)) : SeqAt.shaped (optD o) = true := shaped_of (pl_optD o) (Nat.le_trans (dp_optD o) (by decide))
theorem optD_inj : ∀ {a b : Option (List Int)}, optD a = optD b → a = b
  | none, none, _ => rfl
  | none, some _, h => by cases h
  | some _, none, h => by cases h
  | some a, some b, h => by rw [eT_inj h]
theorem eqv_optD (a b : Option (List Int)) : PyData.eqv (optD a) (optD b) = decide (a = b) := eqv_dec (f := optD) pl_optD (fun _ _ => optD_inj) a b
theorem isNone_optD (o : Option (List Int)) : isNone (optD o) = o.isNone := by cases o <;> rfl
theorem ee_ifp {T : TL} {tt : TT} {ta tb : TE} {ρ : List Sl} {b : Bool} {d : PyData} (h : ET T tt ρ b ρ) (h1 : b = true → EE T ta ρ d ρ) (h2 : b = false → EE T tb ρ d ρ) : EE T (tIf tt ta tb) ρ d ρ := ee_if h h1 h2
theorem eqv_eTs_nil (a : List (List Int)) : PyData.eqv (eTs a) (.list []) = decide (a = []) := eqv_eTs a []
/-- (some[0] if some != [] else None) -/
theorem ee_head {T : TL} {K : PySem.W.Frag} {ρ : List Sl} {i : Nat} {ms : List (List Int)} (h : ρ[i]? = some (.dat (eTs ms))) : EE T (tIf (tTest (tOp (rNeD K) (tVar i) (tLst tNil))) (tOp (rIxL K) (tVar i) (tC (.int 0))) (tC .non)) ρ (optD ms.head?) ρ := by
  refine ee_ifp (et_test (ee_op (ee_var h) (el_lst ea_nil (by simp)).ee (re_neD (sh_eTs ms) sh_nil))) (fun hb => ?_) (fun hb => ?_)
  · cases ms with
    | nil => rw [eqv_eTs_nil] at hb; simp at hb
    | cons c cs => exact ee_op (ee_var h) ee_int (re_ixL (atI_zero (eT c) (cs.map eT)))
  · cases ms with
    | nil => exact ee_non
    | cons c cs => rw [eqv_eTs_nil] at hb; simp at hb
/-! ### what valid ones keep -/
theorem lines_rg {w : Wb} (g : GoodW w) {top : Int} {c : List Int} (v : FitsN w top c) : ∀ x ∈ linesN w c, 1 ≤ x ∧ x ≤ top := fun x hx => by
  unfold linesN at hx
  obtain ⟨q, hq, rfl⟩ := List.mem_map.mp hx
  have l := g.line q hq
  have hl := v.len
  have a := v.rg _ (at0_mem (l := c) (i := q.1) (by omega) (by omega))
  have b := v.rg _ (at0_mem (l := c) (i := q.2) (by omega) (by omega))
  have ne : at0 c q.1 ≠ at0 c q.2 := fun e => by have := at0_inj v.nd (by omega) (by omega) e; omega
  show 1 ≤ iabs (at0 c q.1 - at0 c q.2) ∧ iabs (at0 c q.1 - at0 c q.2) ≤ top
  unfold iabs
  split <;> omega
theorem lines_len (w : Wb) (c : List Int) : (linesN w c).length = w.2.length := by unfold linesN; rw [List.length_map]
theorem val_top {w : Wb} (g : GoodW w) {top : Int} {c : List Int} (v : Val w top c) : (w.2.length : Int) ≤ top ∧ w.1 - 1 ≤ top := by
  have l0 := g.lo
  have ht : 0 ≤ top := by
    have hl := v.fit.len
    have := v.fit.rg _ (at0_mem (l := c) (i := 0) (by omega) (by omega))
    omega
  have h1 := len_le_of_sub (m := ri 1 top.toNat) v.ln fun x hx => mem_ri.mpr (by have := lines_rg g v.fit x hx; omega)
  have h2 := len_le_of_sub (m := ri 0 (top + 1).toNat) v.fit.nd fun x hx => mem_ri.mpr (by have := v.fit.rg x hx; omega)
  rw [ri_len, lines_len] at h1
  rw [ri_len] at h2
  have := v.fit.len
  omega
theorem lines_all {w : Wb} (g : GoodW w) {c : List Int} (v : Val w (topW w) c) : sortI (linesN w c) = ri 1 w.2.length := by
  refine (sortI_is ?_ ((ri_sorted _ _).imp fun h => by omega)).symm
  refine (perm_of_sub v.ln (fun x hx => mem_ri.mpr ?_) (by rw [ri_len, lines_len]; exact Nat.le_refl _)).symm
  have := lines_rg g v.fit x hx
  unfold topW at this
  omega
theorem goodN_iff {w : Wb} {c : List Int} : goodN w c = true ↔ Val w (topW w) c := by
  unfold goodN
  rw [Bool.and_eq_true, val_iff]
end U
namespace U
open PySem L2 DL
theorem flip_fits {w : Wb} {ns : List Int} (h : FitsN w (topW w) ns) : FitsN w (topW w) (flipN w ns) := by
  unfold flipN
  refine ⟨by rw [List.length_map]; exact h.len, fun n hn => ?_, ?_⟩
  · obtain ⟨m, hm, rfl⟩ := List.mem_map.mp hn
    have := h.rg m hm
    omega
  · exact List.pairwise_map.mpr (h.nd.imp fun {a b} z e => z (by omega))
theorem flip_flip (w : Wb) (ns : List Int) : flipN w (flipN w ns) = ns := by
  unfold flipN
  rw [List.map_map]
  conv => rhs; rw [← List.map_id ns]
  refine List.map_congr_left fun n _ => ?_
  show topW w - (topW w - n) = n
  omega
theorem at0_flip {w : Wb} {ns : List Int} {i : Int} (h0 : 0 ≤ i) (h1 : i < ns.length) : at0 (flipN w ns) i = topW w - at0 ns i := by
  unfold at0 flipN
  rw [List.getD_eq_getElem?_getD, List.getElem?_map, List.getD_eq_getElem?_getD, List.getElem?_eq_getElem (by omega)]
  rfl
theorem lines_flip {w : Wb} {ns : List Int} (h : EndsW w ns.length) : linesN w (flipN w ns) = linesN w ns := by
  unfold linesN
  refine List.map_congr_left fun p hp => ?_
  have := h p hp
  rw [at0_flip this.1.1 this.1.2, at0_flip this.2.1 this.2.2]
  unfold iabs
  split <;> split <;> omega
theorem good_flip {w : Wb} {ns : List Int} (g : GoodW w) (h : FitsN w (topW w) ns) : goodN w (flipN w ns) = goodN w ns := by
  unfold goodN differN
  rw [lines_flip (ends_of g h), of_fits h, of_fits (flip_fits h)]
theorem firstIn_len {pl : Pl} {top fixed : Int} : ∀ (d : Nat) (b used c : List Int), firstIn pl top fixed d b used = some c → c.length = pl.length
  | 0, b, used, c, h => by
    have h' : (if b.length = pl.length then some b else none) = some c := h
    split at h'
    · cases h'; assumption
    · cases h'
  | d + 1, b, used, c, h => by
    have h' : (if b.length = pl.length then some b else (nextN pl top b fixed used).findSome? fun x => firstIn pl top fixed d x.1 x.2) = some c := h
    split at h'
    · cases h'; assumption
    · obtain ⟨x, _, hx⟩ := List.exists_of_findSome?_eq_some h'
      exact firstIn_len d x.1 x.2 c hx
def bads09 (n : Int) : List PyData := [.none, .tuple [], .list (rng 0 n.toNat), .tuple (List.replicate n.toNat [PyData.bool true]).flatten]
theorem bads09_ok (w : Wb) (t : Int) (h1 : 1 ≤ w.1) : ∀ d ∈ bads09 w.1, fitsB w t d = false := by
  obtain ⟨m, hm⟩ : ∃ m : Nat, w.1.toNat = m + 1 := ⟨w.1.toNat - 1, by omega⟩
  unfold bads09
  simp only [List.forall_mem_cons]
  refine ⟨rfl, fitsB_len (by simp; omega), rfl, ?_, fun _ h => by cases h⟩
  rw [hm, List.replicate_succ, List.flatten_cons]
  exact fitsB_none rfl
/-- some draws of numbers -/
def mapNums (many top : Int) : Dc → List Int → List (List Int) × Dc
  | D, [] => ([], D)
  | D, _ :: xs => ((anyNums D many top).1.2 :: (mapNums many top (anyNums D many top).2 xs).1, (mapNums many top (anyNums D many top).2 xs).2)
theorem mapNums_len (many top : Int) : ∀ (xs : List Int) (D : Dc), (mapNums many top D xs).1.length = xs.length
  | [], _ => rfl
  | _ :: xs, D => by show (mapNums many top _ xs).1.length + 1 = _; rw [mapNums_len many top xs]; rfl
theorem mapNums_mem {many top : Int} (h0 : 0 ≤ many) (h1 : 0 ≤ top) (h2 : many ≤ 100) : ∀ (xs : List Int) (D : Dc), ∀ ns ∈ (mapNums many top D xs).1, ns.length ≤ 100
  | [], _, _, h => by cases h
  | _ :: xs, D, ns, h => by
    rcases List.mem_cons.mp h with e | h
    · subst e
      have := anyNums_len D h0 h1
      omega
    · exact mapNums_mem h0 h1 h2 xs _ ns h
end U
/-! Th3: tops, begun numberings; while and += in the data logic. -/
namespace U
open PySem L2 DL
/-! ### pairs -/
theorem mem_pairsFrom {n one : Int} {q : Int × Int} : q ∈ pairsFrom n one ↔ q.1 = one ∧ one < q.2 ∧ q.2 < n := by
  unfold pairsFrom
  rw [List.mem_map]
  constructor
  · rintro ⟨o, ho, rfl⟩
    have := mem_ri.mp ho
    exact ⟨rfl, by show one < o; omega, by show o < n; omega⟩
  · rintro ⟨h1, h2, h3⟩
    exact ⟨q.2, mem_ri.mpr (by omega), by rw [← h1]⟩
theorem fold_app_eq {α β : Type} (f : α → List β) : ∀ (xs : List α) (l : List β), xs.foldl (fun l x => l ++ f x) l = l ++ xs.flatMap f
  | [], l => by simp
  | x :: xs, l => by rw [List.foldl_cons, fold_app_eq f xs, List.flatMap_cons, List.append_assoc]
theorem mem_pairsN {n : Int} {q : Int × Int} : q ∈ pairsN n ↔ 0 ≤ q.1 ∧ q.1 < q.2 ∧ q.2 < n := by
  unfold pairsN
  rw [fold_app_eq, List.nil_append, List.mem_flatMap]
  constructor
  · rintro ⟨one, h1, h2⟩
    have := mem_ri.mp h1
    have := mem_pairsFrom.mp h2
    omega
  · rintro ⟨h1, h2, h3⟩
    exact ⟨q.1, mem_ri.mpr (by omega), mem_pairsFrom.mpr ⟨rfl, h2, h3⟩⟩
theorem lines15 {w : Wb} (g : GoodW w) : w.2.length ≤ 15 := by
  have h := len_le_of_sub (m := pairsN w.1) (lines_nodup g) fun q hq => mem_pairsN.mpr (g.line q hq)
  have := (row_ok w.1 (mem6 g.lo g.hi)).2.2.2.2.2.2
  omega
theorem few_of {d : PyData} (h : webB d = true) : (toW d).2.length ≤ 15 := by
  obtain ⟨v, rfl, ok⟩ := webB_iff.mp h
  rw [toW_eW]
  exact lines15 (good_of ok)
theorem small_of {w : Wb} (g : GoodW w) : smallW (eW w) := smallW_eW (by have := lines15 g; omega)
/-! ### a top that is enough -/
def ruler : List Int := [0, 1, 4, 10, 12, 17]
theorem ruler_ok : ∀ n ∈ [(1 : Int), 2, 3, 4, 5, 6], ((pairsN n).map fun p => iabs (at0 (ruler.take n.toNat) p.1 - at0 (ruler.take n.toNat) p.2)).Nodup ∧ (((ruler.take n.toNat).length : Int) = n ∧ (ruler.take n.toNat).Nodup ∧ ∀ x ∈ ruler.take n.toNat, 0 ≤ x ∧ x ≤ 17) := by decide +kernel
theorem nodup_map_sub {α β : Type} [DecidableEq α] {f : α → β} {l m : List α} (hl : l.Nodup) (hs : ∀ x ∈ l, x ∈ m) (h : (m.map f).Nodup) : (l.map f).Nodup := by
  refine nodup_map hl fun x hx y hy e => ?_
  have key : ∀ {m : List α}, (m.map f).Nodup → x ∈ m → y ∈ m → x = y := by
    intro m
    induction m with
    | nil => intro _ h; cases h
    | cons z m ih =>
      intro h hx hy
      rw [List.map_cons, List.nodup_cons] at h
      rcases List.mem_cons.mp hx with rfl | hx' <;> rcases List.mem_cons.mp hy with rfl | hy'
      · rfl
      · exact absurd (List.mem_map.mpr ⟨y, hy', e.symm⟩) h.1
      · exact absurd (List.mem_map.mpr ⟨x, hx', e⟩) h.1
      · exact ih h.2 hx' hy'
  exact key h (hs x hx) (hs y hy)
theorem ruler_val {w : Wb} (g : GoodW w) : Val w 17 (ruler.take w.1.toNat) := by
  obtain ⟨h1, h2, h3, h4⟩ := ruler_ok w.1 (mem6 g.lo g.hi)
  refine ⟨⟨h2, h4, h3⟩, ?_⟩
  unfold linesN
  exact nodup_map_sub (lines_nodup g) (fun q hq => mem_pairsN.mpr (g.line q hq)) h1
theorem val_mono {w : Wb} {t t' : Int} {c : List Int} (h : Val w t c) (ht : t ≤ t') : Val w t' c := ⟨⟨h.fit.len, fun n hn => by have := h.fit.rg n hn; omega, h.fit.nd⟩, h.ln⟩
theorem first_none {w : Wb} (g : GoodW w) {t : Int} : (firstFrom w t []).isNone = true ↔ ∀ c, ¬ Val w t c := by
  rw [first_all g, Option.isNone_iff_eq_none, List.head?_eq_none_iff]
  constructor
  · intro h c v
    have := (all_mem g).mpr v
    rw [h] at this
    cases this
  · intro h
    exact List.eq_nil_iff_forall_not_mem.mpr fun c hc => h c ((all_mem g).mp hc)
theorem first_some {w : Wb} (g : GoodW w) {t : Int} {c : List Int} (h : firstFrom w t [] = some c) : Val w t c := by
  rw [first_all g] at h
  exact (all_mem g).mp (List.mem_of_head? h)
/-- the first one is not behind any other -/
theorem first_le {w : Wb} (g : GoodW w) {t : Int} {c d : List Int} (h : firstFrom w t [] = some c) (v : Val w t d) : HT.lexLt d c = false := by
  rw [first_all g] at h
  rcases head_least (all_sorted w t) h ((all_mem g).mpr v) with e | e
  · rw [e]; exact lx_irrefl _
  · exact lx_not e
/-! ### the least top -/
def leastF (w : Wb) : Nat → Int → Int
  | 0, t => t
  | f + 1, t => if (firstFrom w t []).isNone then leastF w f (t + 1) else t
def startT (w : Wb) : Int := max (topW w) (w.1 - 1)
def leastN (w : Wb) : Int := leastF w 20 (startT w)
theorem leastF_spec {w : Wb} (g : GoodW w) : ∀ (f : Nat) (t : Int), t ≤ 17 → 17 ≤ t + f → (∀ s, s < t → ∀ c, ¬ Val w s c) →
    t ≤ leastF w f t ∧ leastF w f t ≤ 17 ∧ (firstFrom w (leastF w f t) []).isNone = false ∧ (∀ s, s < leastF w f t → ∀ c, ¬ Val w s c) ∧ ∀ s, t ≤ s → s < leastF w f t → (firstFrom w s []).isNone = true
  | 0, t, h1, h2, hb => by
    have : t = 17 := by omega
    subst this
    unfold leastF
    refine ⟨Int.le_refl _, Int.le_refl _, ?_, hb, fun s h3 h4 => by omega⟩
    cases e : (firstFrom w 17 []).isNone with
    | false => rfl
    | true => exact absurd (ruler_val g) ((first_none g).mp e _)
  | f + 1, t, h1, h2, hb => by
    unfold leastF
    cases e : (firstFrom w t []).isNone with
    | false =>
      rw [if_neg (by decide)]
      exact ⟨Int.le_refl _, h1, e, hb, fun s h3 h4 => by omega⟩
    | true =>
      rw [if_pos rfl]
      have nv := (first_none g).mp e
      have h17 : t < 17 := by
        by_cases z : t = 17
        · subst z
          exact absurd (ruler_val g) (nv _)
        · omega
      have ih := leastF_spec g f (t + 1) (by omega) (by omega) fun s hs c v => by
        by_cases z : s = t
        · subst z; exact nv c v
        · exact hb s (by omega) c v
      refine ⟨by omega, ih.2.1, ih.2.2.1, ih.2.2.2.1, fun s h3 h4 => ?_⟩
      by_cases z : s = t
      · subst z; exact e
      · exact ih.2.2.2.2 s (by omega) h4
structure LeastOk (w : Wb) (t : Int) : Prop where
  lo : startT w ≤ t
  hi : t ≤ 17
  has : (firstFrom w t []).isNone = false
  no : ∀ s, s < t → ∀ c, ¬ Val w s c
  step : ∀ s, startT w ≤ s → s < t → (firstFrom w s []).isNone = true
theorem least_ok {w : Wb} (g : GoodW w) : LeastOk w (leastN w) := by
  have h15 := lines15 g
  have := g.hi
  have hs : startT w ≤ 17 := by unfold startT topW; omega
  have h0 : 0 ≤ startT w := by unfold startT topW; omega
  obtain ⟨a, b, c, d, e⟩ := leastF_spec g 20 (startT w) hs (by omega) fun s hs c v => by
    have := val_top g v
    unfold startT topW at hs
    omega
  exact ⟨a, b, c, d, e⟩
theorem least_val {w : Wb} (g : GoodW w) {t : Int} : (∃ c, Val w t c) ↔ leastN w ≤ t := by
  have l := least_ok g
  constructor
  · rintro ⟨c, v⟩
    rcases Int.lt_or_le t (leastN w) with h | h
    · exact absurd v (l.no t h c)
    · exact h
  · intro h
    cases e : firstFrom w (leastN w) [] with
    | none => have := l.has; rw [e] at this; cases this
    | some c => exact ⟨c, val_mono (first_some g e) h⟩
/-! ### begun ones -/
def complN (w : Wb) (b : List Int) : Option (List Int) := if dcount (usedN (planN w) b) < (usedN (planN w) b).length then none else firstFrom w (topW w) b
structure UnlikeN (ns : List Int) (most top : Int) : Prop where
  len : (ns.length : Int) ≤ most
  rg : ∀ n ∈ ns, 0 ≤ n ∧ n ≤ top
  nd : ns.Nodup
theorem unlike_iff {ns : List Int} {m t : Int} : unlikeN ns m t = true ↔ UnlikeN ns m t := by
  unfold unlikeN
  simp only [Bool.and_eq_true, decide_eq_true_eq, List.all_eq_true, dcount_full]
  constructor
  · rintro ⟨h1, h2, h3⟩
    exact ⟨h1, fun n hn => by have := h2 n hn; unfold rangeB at this; simpa using this, h3⟩
  · intro h
    exact ⟨h.len, fun n hn => by unfold rangeB; simpa using h.rg n hn, h.nd⟩
theorem compl_is {w : Wb} (g : GoodW w) {b : List Int} (h : UnlikeN b w.1 (topW w)) : complN w b = (begins w (topW w) b).head? := by
  have hb : b.length ≤ w.1.toNat := by have := h.len; omega
  have up := used_perm g b.length b rfl hb
  unfold complN
  by_cases nd : (usedN (planN w) b).Nodup
  · rw [if_neg (by rw [(dcount_full _).mpr nd]; omega)]
    exact first_is g ⟨rfl, h.rg, h.nd, up.nodup_iff.mp nd⟩ hb
  · have : dcount (usedN (planN w) b) < (usedN (planN w) b).length := by
      have h1 := dcount_le (usedN (planN w) b)
      have h2 : dcount (usedN (planN w) b) ≠ (usedN (planN w) b).length := fun e => nd ((dcount_full _).mp e)
      omega
    rw [if_pos this]
    symm
    rw [List.head?_eq_none_iff]
    refine List.eq_nil_iff_forall_not_mem.mpr fun c hc => ?_
    obtain ⟨⟨r, rfl⟩, v⟩ := (begins_mem g).mp hc
    have := ((pv_val g).mpr v).take g
    exact nd (up.nodup_iff.mpr this.ln)
end U
namespace DL
open PySem L2
open Evl (Ex)
section
variable {T : TL} {X : XK} {tt : TT} {t : TS} {te : TE} {ρ ρ1 : List Sl}
/-- while: k turns through the states st -/
theorem ss_while {st : Nat → List Sl} {k : Nat} (hs : ∀ i, i < k → ET T tt (st i) true (st i) ∧ SS T X t (st i) (.nx (st (i + 1)))) (he : ET T tt (st k) false (st k)) : SS T X (tWhile tt t) (st 0) (.nx (st k)) := fun F W D B H σ E post => by
  refine ⟨fun m σ H => ∃ i B', i ≤ k ∧ m = k - i ∧ Ex B B' ∧ Env T F W B' H σ (st i), ⟨k, 0, B, Nat.zero_le _, rfl, Ex.refl _, E⟩, ?_⟩
  rintro m σ1 H1 ⟨i, B1, hi, rfl, e1, E1⟩
  rcases Nat.lt_or_ge i k with h | h
  · obtain ⟨h1, h2⟩ := hs i h
    refine h1 F W B1 H1 σ1 _ E1 fun B2 H2 e2 E2 => ?_
    rw [if_pos rfl]
    refine ⟨fun σ' H' => ∃ B3, Ex B B3 ∧ Env T F W B3 H' σ' (st (i + 1)), fun σ' H' ⟨B3, e3, E3⟩ => ⟨k - (i + 1), by omega, i + 1, B3, h, rfl, e3, E3⟩, ?_⟩
    exact h2 F W _ B2 H2 σ1 E2 fun σ' B3 H3 e3 E3 => ⟨B3, (e1.trans e2).trans e3, E3⟩
  · have : i = k := by omega
    subst this
    refine he F W B1 H1 σ1 _ E1 fun B2 H2 e2 E2 => ?_
    rw [if_neg (by decide)]
    exact post σ1 B2 H2 (e1.trans e2) E2
theorem ss_aug {i : Nat} {a b : Int} {f : Int → Int → Int} (hi : ρ[i]? = some (.dat (.int a))) (h : EE T te ρ (.int b) ρ1) : SS T X (tAug i te (ipI f)) ρ (.nx (ρ1.set i (.dat (.int (f a b))))) := fun F W D B H σ E k => by
  obtain ⟨v, h1, h2⟩ := E.dat hi
  have e := h2.inv_int
  subst e
  exact ⟨_, h1, h F W B H σ _ E fun u B' H' e' E' q => ⟨a, b, rfl, q.inv_int, k _ B' H' e' (E'.set (.int _))⟩⟩
end
end DL
/-! LawH: what the laws' own rows say again and again. -/
namespace DL
open PySem L2 U
open Evl (Ex)
/-- ends in one of several states -/
def SN (T : TL) (X : XK) (t : TS) (ρ : List Sl) (J : List Sl → Prop) : Prop := ∀ F W D B H σ, Env T F W B H σ ρ → (∀ ρ', J ρ' → Post T X F W D B (.nx ρ')) → t D σ H
section
variable {T : TL} {X : XK} {t u : TS} {tt : TT} {te : TE} {g : TG} {K : PySem.W.Frag} {ρ ρ1 ρ2 : List Sl} {o : Out} {J J' : List Sl → Prop} {b : Bool}
theorem sn_of (h : SS T X t ρ (.nx ρ1)) (j : J ρ1) : SN T X t ρ J := fun F W D B H σ E k => h F W D B H σ E (k _ j)
theorem sn_nx (h : SS T X t ρ (.nx ρ1)) (w : Weaker ρ1 ρ2) (j : J ρ2) : SN T X t ρ J := sn_of (ss_forget h w) j
theorem sn_seq (h : SS T X t ρ (.nx ρ1)) (h2 : SN T X u ρ1 J) : SN T X (tSeq t u) ρ J := fun F W D B H σ E k =>
  h F W { D with nx := u D } B H σ E fun σ' B' H' e' E' => h2 F W D B' H' σ' E' fun ρ' j => (k ρ' j).le e'
theorem sn_seqN (h : SN T X t ρ J) (h2 : ∀ ρ', J ρ' → SN T X u ρ' J') : SN T X (tSeq t u) ρ J' := fun F W D B H σ E k =>
  h F W { D with nx := u D } B H σ E fun ρ' j σ' B' H' e' E' => h2 ρ' j F W D B' H' σ' E' fun ρ'' j' => (k ρ'' j').le e'
theorem ss_seqN (h : SN T X t ρ J) (h2 : ∀ ρ', J ρ' → SS T X u ρ' o) : SS T X (tSeq t u) ρ o := fun F W D B H σ E k =>
  h F W { D with nx := u D } B H σ E fun ρ' j σ' B' H' e' E' => h2 ρ' j F W D B' H' σ' E' (k.le e')
theorem ss_of_sn (h : SN T X t ρ J) (h2 : ∀ ρ', J ρ' → ρ' = ρ1) : SS T X t ρ (.nx ρ1) := fun F W D B H σ E k =>
  h F W D B H σ E fun ρ' j => by rw [h2 ρ' j]; exact k
theorem ss_of_snW (h : SN T X t ρ J) (h2 : ∀ ρ', J ρ' → Weaker ρ' ρ1) : SS T X t ρ (.nx ρ1) := fun F W D B H σ E k =>
  h F W D B H σ E fun ρ' j σ' B' H' e' E' => k σ' B' H' e' (E'.weak (h2 ρ' j))
theorem sn_if (h : ET T tt ρ b ρ1) (h1 : b = true → SN T X t ρ1 J) (h2 : b = false → SN T X u ρ1 J) : SN T X (tIfS tt t u) ρ J := fun F W D B H σ E k =>
  h F W B H σ _ E fun B' H' e' E' => by
    cases b with
    | true => rw [if_pos rfl]; exact h1 rfl F W D B' H' σ E' fun ρ' j => (k ρ' j).le e'
    | false => rw [if_neg Bool.false_ne_true]; exact h2 rfl F W D B' H' σ E' fun ρ' j => (k ρ' j).le e'
theorem sn_imp (h : SN T X t ρ J) (h2 : ∀ ρ', J ρ' → J' ρ') : SN T X t ρ J' := fun F W D B H σ E k => h F W D B H σ E fun ρ' j => k ρ' (h2 ρ' j)
/-- one turn -/
def TurnN (T : TL) (X : XK) (g : TG) (t : TS) (d : PyData) (J : List Sl → Prop) : Prop := ∀ ρ, J ρ → ∃ ρ', EG T g d ρ ρ' ∧ SN T X t ρ' J
theorem turnN_step {F : Hp} {W : Addr → Prop} {D : Ends} {B1 : Hp} (k : ∀ ρ', J ρ' → Post T X F W D B1 (.nx ρ')) {σ : Sigma} {H : Hp} {v : V} {d : PyData} {B' : Hp} {ρi : List Sl} (e : Ex B1 B') (E : Env T F W B' H σ ρi) (q : Dt B' v d) (j : J ρi) (h : TurnN T X g t d J) :
    g v σ H fun σ2 H2 => t { D with nx := fun σ H => ∃ B' ρi, Ex B1 B' ∧ Env T F W B' H σ ρi ∧ J ρi, ct := fun σ H => ∃ B' ρi, Ex B1 B' ∧ Env T F W B' H σ ρi ∧ J ρi, bk := D.nx } σ2 H2 := by
  obtain ⟨ρ', hg, hs⟩ := h ρi j
  exact hg F W B' H σ v _ E q fun σ2 E2 => hs F W _ B' H σ2 E2 fun ρ'' j' σ' B2 H2 e2 E3 => ⟨B2, _, e.trans e2, E3, j'⟩
theorem turnN_end {F : Hp} {W : Addr → Prop} {D : Ends} {B1 : Hp} (k : ∀ ρ', J ρ' → Post T X F W D B1 (.nx ρ')) {σ : Sigma} {H : Hp} (h : ∃ B' ρi, Ex B1 B' ∧ Env T F W B' H σ ρi ∧ J ρi) : D.nx σ H := by
  obtain ⟨B', ρi, e, E, j⟩ := h
  exact k ρi j σ B' H e E
theorem sn_forR1 {ta : TA} {n : Int} (h : EA T ta ρ [.int n] ρ1) (hn : -100000 ≤ n ∧ n ≤ 100000) (h0 : J ρ1) (hb : ∀ x ∈ ri 0 n.toNat, TurnN T X g t (.int x) J) : SN T X (tFor (iRng1 ta) g t) ρ J := fun F W D B H σ E k =>
  h F W B H σ _ E fun vs B1 H1 e1 E1 q1 => by
    have k1 := fun ρ' j => (k ρ' j).le e1
    have ev : vs = [.int n] := by cases q1 with | cons q1 q2 => cases q2; rw [q1.inv_int]
    refine ⟨n, ev, by omega, by omega, for_range (lo := 0) (n := n.toNat) (fun i σ H => ∃ B' ρi, Ex B1 B' ∧ Env T F W B' H σ ρi ∧ J ρi) ⟨B1, ρ1, Ex.refl _, E1, h0⟩ (fun i σ H hi ⟨B', ρi, e, E, j⟩ => ?_) (fun σ H h => turnN_end k1 h)⟩
    exact turnN_step k1 e E (.int _) j (hb _ (mem_ri.mpr (by omega)))
theorem sn_forL {ds : List PyData} (h : EE T te ρ (.list ds) ρ1) (h0 : J ρ1) (hb : ∀ d ∈ ds, TurnN T X g t d J) : SN T X (tFor (iList K te) g t) ρ J := fun F W D B H σ E k =>
  h F W B H σ _ E fun v B1 H1 e1 E1 q1 => by
    obtain ⟨a, xs, f1, f2, q⟩ := q1.inv_lst
    have k1 := fun ρ' j => (k ρ' j).le e1
    refine ⟨a, f1, ⟨xs, SqL.of (E1.bh _ _ f2)⟩, for_list (xs := xs) (fun i σ H => ∃ B' ρi, Ex B1 B' ∧ Env T F W B' H σ ρi ∧ J ρi) ⟨B1, ρ1, Ex.refl _, E1, h0⟩ (fun i σ H _ ⟨B', ρi, e, E, _⟩ => SqL.of (E.bh _ _ (e _ _ f2))) (fun i x σ H hx ⟨B', ρi, e, E, j⟩ => ?_) (fun σ H h => turnN_end k1 h)⟩
    obtain ⟨d, hd, qd⟩ := q.getV hx
    exact turnN_step k1 e E (qd.mono e) j (hb d (List.mem_of_getElem? hd))
theorem sn_forT {ds : List PyData} (h : EE T te ρ (.tuple ds) ρ1) (h0 : J ρ1) (hb : ∀ d ∈ ds, TurnN T X g t d J) : SN T X (tFor (iTup K te) g t) ρ J := fun F W D B H σ E k =>
  h F W B H σ _ E fun v B1 H1 e1 E1 q1 => by
    obtain ⟨a, xs, f1, f2, q⟩ := q1.inv_tup
    have k1 := fun ρ' j => (k ρ' j).le e1
    refine ⟨a, f1, ⟨xs, SqT.of (E1.bh _ _ f2)⟩, for_tup (xs := xs) (fun i σ H => ∃ B' ρi, Ex B1 B' ∧ Env T F W B' H σ ρi ∧ J ρi) ⟨B1, ρ1, Ex.refl _, E1, h0⟩ (fun i σ H _ ⟨B', ρi, e, E, _⟩ => SqT.of (E.bh _ _ (e _ _ f2))) (fun i x σ H hx ⟨B', ρi, e, E, j⟩ => ?_) (fun σ H h => turnN_end k1 h)⟩
    obtain ⟨d, hd, qd⟩ := q.getV hx
    exact turnN_step k1 e E (qd.mono e) j (hb d (List.mem_of_getElem? hd))
/-- if ..: return False, the test false -/
theorem ss_no (h : ET T tt ρ false ρ1) : SS T X (tIfS tt t tNext) ρ (.nx ρ1) := ss_if h (fun h => by cases h) (fun _ => ss_next)
/-- the same, and on -/
theorem ss_chk (h : ET T tt ρ false ρ) (h2 : SS T X u ρ o) : SS T X (tSeq (tIfS tt t tNext) u) ρ o := ss_seq (ss_no h) h2
theorem Weaker.unset {j : Nat} {s : Sl} (h : ρ[j]? = some .no) : Weaker (ρ.set j s) ρ := ⟨by rw [List.length_set], fun i s' hs => by
  by_cases e : j = i
  · subst e; rw [h] at hs; cases hs; exact .inl rfl
  · right; rw [List.getElem?_set_ne e]; exact hs⟩
theorem err_ok : ∀ x ∈ kinds, (!PyData.eqv (errD x) (errD x)) = false ∧ SeqAt.shaped (errD x) = true := by decide +kernel
/-- _law_told(lambda: ..) != ("error", x) -/
theorem et_told {xa : Str → Addr} {x : Str} {tl : XK → TE} (hT : T ≠ []) (tk : Tt K xa x) (h : ER T tl ρ (.ex (xa x))) : ET T (tTest (tOp (rNeD K) (tTold K xa T tl) (tTup (tCons (tC (.str "error")) (tCons (tC (.str x)) tNil))))) ρ false ρ :=
  ET.is (et_test (ee_op (ee_toldX hT tk h) (ee_tup (ea_2 ee_str ee_str) (by simp)) (re_neD (err_ok x tk.mem).2 (err_ok x tk.mem).2))) (err_ok x tk.mem).1
/-- for bad in ..: one that is never told otherwise -/
theorem ss_bads {j : Nat} {ds : List PyData} (h : EE T te ρ (.list ds) ρ) (hj : ρ[j]? = some .no) (hb : ∀ d ∈ ds, SS T X t (ρ.set j (.dat d)) (.nx (ρ.set j (.dat d)))) : SS T X (tFor (iList K te) (gName j) t) ρ (.nx ρ) :=
  ss_forL h (ForR.all (st := fun _ => ρ) fun i d hd => ⟨ρ.set j (.dat d), eg_name, ss_forget (hb d (List.mem_of_getElem? hd)) (Weaker.unset hj)⟩)
theorem ea_7 {t1 t2 t3 t4 t5 t6 t7 : TE} {d1 d2 d3 d4 d5 d6 d7 : PyData} (h1 : EE T t1 ρ d1 ρ) (h2 : EE T t2 ρ d2 ρ) (h3 : EE T t3 ρ d3 ρ) (h4 : EE T t4 ρ d4 ρ) (h5 : EE T t5 ρ d5 ρ) (h6 : EE T t6 ρ d6 ρ) (h7 : EE T t7 ρ d7 ρ) : EA T (tCons t1 (tCons t2 (tCons t3 (tCons t4 (tCons t5 (tCons t6 (tCons t7 tNil))))))) ρ [d1, d2, d3, d4, d5, d6, d7] ρ := ea_cons h1 (ea_6 h2 h3 h4 h5 h6 h7)
theorem ea_8 {t1 t2 t3 t4 t5 t6 t7 t8 : TE} {d1 d2 d3 d4 d5 d6 d7 d8 : PyData} (h1 : EE T t1 ρ d1 ρ) (h2 : EE T t2 ρ d2 ρ) (h3 : EE T t3 ρ d3 ρ) (h4 : EE T t4 ρ d4 ρ) (h5 : EE T t5 ρ d5 ρ) (h6 : EE T t6 ρ d6 ρ) (h7 : EE T t7 ρ d7 ρ) (h8 : EE T t8 ρ d8 ρ) : EA T (tCons t1 (tCons t2 (tCons t3 (tCons t4 (tCons t5 (tCons t6 (tCons t7 (tCons t8 tNil)))))))) ρ [d1, d2, d3, d4, d5, d6, d7, d8] ρ := ea_cons h1 (ea_7 h2 h3 h4 h5 h6 h7 h8)
/-- len of a list of encoded things -/
theorem ee_lenL {α : Type} {enc : α → PyData} {xs : List α} (h : EE T te ρ (.list (xs.map enc)) ρ1) : EE T (tCB (rLenQ K) (tCons te tNil)) ρ (.int xs.length) ρ1 := by
  have := ee_cb (r := rLenQ K) (ea_1 h) rb_lenL
  rw [List.length_map] at this
  exact this
theorem ee_lenT {α : Type} {enc : α → PyData} {xs : List α} (h : EE T te ρ (.tuple (xs.map enc)) ρ1) : EE T (tCB (rLenQ K) (tCons te tNil)) ρ (.int xs.length) ρ1 := by
  have := ee_cb (r := rLenQ K) (ea_1 h) rb_lenT
  rw [List.length_map] at this
  exact this
/-- web[0], web[1], len(web[1]) -/
theorem ee_w0 {v : Wb} {i : Nat} (h : ρ[i]? = some (.dat (eW v))) : EE T (tOp (rIxT K) (tVar i) (tC (.int 0))) ρ (.int v.1) ρ := ee_op (ee_var h) ee_int (re_ixT rfl)
theorem ee_w1 {v : Wb} {i : Nat} (h : ρ[i]? = some (.dat (eW v))) : EE T (tOp (rIxT K) (tVar i) (tC (.int 1))) ρ (ePs v.2) ρ := ee_op (ee_var h) ee_int (re_ixT rfl)
theorem ee_wlen {v : Wb} {i : Nat} (h : ρ[i]? = some (.dat (eW v))) : EE T (tCB (rLenQ K) (tCons (tOp (rIxT K) (tVar i) (tC (.int 1))) tNil)) ρ (.int (topW v)) ρ := ee_lenT (enc := eP) (ee_w1 h)
/-- t[:n] -/
theorem ee_cutTo {ns : List Int} {n : Int} {tn : TE} (h : EE T te ρ (eT ns) ρ1) (h2 : EE T tn ρ1 (.int n) ρ2) (h0 : 0 ≤ n) : EE T (tSl (rSlA K) te tNoPart (tPart tn)) ρ (eT (ns.take n.toNat)) ρ2 := by
  have := ee_slT (K := K) h eo_none (eo_some h2)
  rw [cut_to _ h0, ← List.map_take] at this
  exact this
end
end DL
namespace U
open PySem L2 DL
/-! ### the law's draws of numbers -/
theorem filter_perm {l : List Int} {x : Int} (nd : l.Nodup) (h : x ∈ l) : (x :: l.filter fun y => !decide (y = x)).Perm l := by
  refine perm_of_sub (List.nodup_cons.mpr ⟨by simp, nd.filter _⟩) (fun y hy => ?_) ?_
  · rcases List.mem_cons.mp hy with rfl | hy
    · exact h
    · exact (List.mem_filter.mp hy).1
  · rw [List.length_cons, filter_ne_len nd h]; exact Nat.le_refl _
theorem nums_perm : ∀ (xs : List Int) (s : Ns), s.1.1.Nodup → xs.length ≤ s.1.1.length → ((numsD xs s).1.2 ++ (numsD xs s).1.1).Perm (s.1.2 ++ s.1.1)
  | [], s, nd, _ => List.Perm.refl _
  | x :: xs, s, nd, h => by
    have hl : 0 < s.1.1.length := by simp at h; omega
    have hm := at0_mem (l := s.1.1) (rollV_lo s.2 (m := (s.1.1.length : Int)) (by omega)) (rollV_hi s.2 (by omega))
    have e := filter_ne_len nd hm
    have ih := nums_perm xs (numStep s) (nd.filter _) (by show xs.length ≤ (List.filter _ _).length; simp at h; omega)
    refine ih.trans ?_
    unfold numStep
    dsimp only
    rw [List.append_assoc, List.singleton_append]
    exact (filter_perm nd hm).append_left _
theorem anyNums_ok (D : Dc) {many top : Int} (h0 : 0 ≤ many) (h1 : 0 ≤ top) : ((anyNums D many top).1.2.length : Int) = min many (top + 1) ∧ (anyNums D many top).1.2.Nodup ∧ ∀ x ∈ (anyNums D many top).1.2, 0 ≤ x ∧ x ≤ top := by
  have hp := nums_perm (ri 0 (min many (top + 1)).toNat) ((ri 0 (top + 1).toNat, []), D) (ri_nodup _ _) (by rw [ri_len]; show _ ≤ (ri 0 (top + 1).toNat).length; rw [ri_len]; omega)
  have hp : ((anyNums D many top).1.2 ++ (anyNums D many top).1.1).Perm (ri 0 (top + 1).toNat) := hp
  refine ⟨anyNums_len D h0 h1, (List.nodup_append.mp (hp.nodup_iff.mpr (ri_nodup _ _))).1, fun x hx => ?_⟩
  have := mem_ri.mp (hp.mem_iff.mp (List.mem_append_left _ hx))
  omega
/-- all places get names: a renaming -/
theorem anyNums_full (D : Dc) {n : Int} (h : 1 ≤ n) : FitsN (n, []) (n - 1) (anyNums D n (n - 1)).1.2 := by
  obtain ⟨a, b, c⟩ := anyNums_ok D (many := n) (top := n - 1) (by omega) (by omega)
  exact ⟨by rw [a]; show min n (n - 1 + 1) = n; omega, c, b⟩
end U
/-! Cnt: how many numberings there are: twins exchanged. -/
namespace U
open PySem L2 DL
theorem len_same {α : Type} [DecidableEq α] {a b : List α} (ha : a.Nodup) (hb : b.Nodup) (h : ∀ x, x ∈ a ↔ x ∈ b) : a.length = b.length :=
  Nat.le_antisymm (len_le_of_sub ha fun x hx => (h x).mp hx) (len_le_of_sub hb fun x hx => (h x).mpr hx)
theorem len_le_map {α : Type} [DecidableEq α] {a b : List α} (f : α → α) (ha : a.Nodup) (hf : ∀ x ∈ a, f x ∈ b) (hi : ∀ x ∈ a, ∀ y ∈ a, f x = f y → x = y) : a.length ≤ b.length := by
  have := len_le_of_sub (nodup_map ha hi) (m := b) fun y hy => by
    obtain ⟨x, hx, rfl⟩ := List.mem_map.mp hy
    exact hf x hx
  rw [List.length_map] at this
  exact this
theorem filter_split {α : Type} (p q : α → Bool) : ∀ l : List α, (l.filter p).length = (l.filter fun x => p x && q x).length + (l.filter fun x => p x && !q x).length
  | [] => rfl
  | x :: l => by
    have ih := filter_split p q l
    cases hp : p x <;> cases hq : q x <;> simp [List.filter_cons, hp, hq] <;> omega
theorem pull_pull {w : Wb} {t p : Int} {c : List Int} (hc : (c.length : Int) = w.1) (ht : 0 ≤ t ∧ t < w.1) (hp : 0 ≤ p ∧ p < w.1) : pull w.1.toNat (tau t p) (pull w.1.toNat (tau t p) c) = c := by
  refine List.ext_getElem? fun i => ?_
  have l1 := pull_len w.1.toNat (tau t p) (pull w.1.toNat (tau t p) c)
  by_cases hi : i < w.1.toNat
  · have r := (tau_rn ht hp).to (i : Int) (by omega) (by omega)
    have a := at0_pull (n := w.1.toNat) (f := tau t p) (c := pull w.1.toNat (tau t p) c) (i := (i : Int)) (by omega) (by omega)
    have b := at0_pull (n := w.1.toNat) (f := tau t p) (c := c) (i := tau t p (i : Int)) r.1 (by omega)
    rw [b, tau_tau] at a
    unfold at0 at a
    rw [List.getD_eq_getElem?_getD, List.getD_eq_getElem?_getD] at a
    have l2 : (i : Int).toNat < (pull w.1.toNat (tau t p) (pull w.1.toNat (tau t p) c)).length := by rw [l1]; omega
    have l3 : (i : Int).toNat < c.length := by omega
    rw [List.getElem?_eq_getElem l2, List.getElem?_eq_getElem l3] at a
    have l2' : i < (pull w.1.toNat (tau t p) (pull w.1.toNat (tau t p) c)).length := by rw [l1]; omega
    have l3' : i < c.length := by omega
    rw [List.getElem?_eq_getElem l2', List.getElem?_eq_getElem l3']
    simpa using a
  · rw [List.getElem?_eq_none (by rw [l1]; omega), List.getElem?_eq_none (by omega)]
/-- twins among the first k places ascend -/
def CanP (w : Wb) (k : Int) (c : List Int) : Prop := ∀ p, 0 ≤ p → p < k → ∀ t, 0 ≤ t → t < p → twinN w t p = true → at0 c t < at0 c p
def canB (w : Wb) (k : Int) (c : List Int) : Bool := (ri 0 k.toNat).all fun p => (ri 0 p.toNat).all fun t => !twinN w t p || decide (at0 c t < at0 c p)
theorem canB_iff {w : Wb} {k : Int} {c : List Int} : canB w k c = true ↔ CanP w k c := by
  unfold canB CanP
  rw [List.all_eq_true]
  constructor
  · intro h p p0 pk t t0 tp tw
    have := List.all_eq_true.mp (h p (mem_ri.mpr (by omega))) t (mem_ri.mpr (by omega))
    rw [tw] at this
    simpa using this
  · intro h p hp
    have hp := mem_ri.mp hp
    rw [List.all_eq_true]
    intro t ht
    have ht := mem_ri.mp ht
    cases tw : twinN w t p with
    | false => rfl
    | true => simpa using h p (by omega) (by omega) t (by omega) (by omega) tw
def canL (w : Wb) (top k : Int) : List (List Int) := (allN w top).filter (canB w k)
theorem canL_mem {w : Wb} (g : GoodW w) {top k : Int} {c : List Int} : c ∈ canL w top k ↔ Val w top c ∧ CanP w k c := by
  unfold canL
  rw [List.mem_filter, all_mem g, canB_iff]
theorem all_nd (w : Wb) (top : Int) : (allN w top).Nodup := lx_nodup (all_sorted w top)
theorem canL_nd (w : Wb) (top k : Int) : (canL w top k).Nodup := (all_nd w top).filter _
/-- the twins of k ahead of it -/
def twB (w : Wb) (k : Int) : List Int := (ri 0 k.toNat).filter fun t => twinN w t k
section
variable {w : Wb} {top k : Int}
theorem twB_at {j : Nat} (hj : j < (twB w k).length) : 0 ≤ at0 (twB w k) j ∧ at0 (twB w k) j < k ∧ twinN w (at0 (twB w k) j) k = true := by
  have hm : at0 (twB w k) j ∈ twB w k := at0_mem (by omega) (by omega)
  obtain ⟨h1, h2⟩ := List.mem_filter.mp hm
  have := mem_ri.mp h1
  exact ⟨by omega, by omega, h2⟩
theorem twB_lt {i j : Nat} (hij : i < j) (hj : j < (twB w k).length) : at0 (twB w k) i < at0 (twB w k) j := by
  have s : (twB w k).Pairwise (· < ·) := (ri_sorted _ _).filter _
  have := List.pairwise_iff_getElem.mp s i j (by omega) hj hij
  unfold at0
  rw [List.getD_eq_getElem?_getD, List.getD_eq_getElem?_getD, List.getElem?_eq_getElem (by omega), List.getElem?_eq_getElem (by omega)]
  simpa using this
theorem twB_ex {t : Int} (t0 : 0 ≤ t) (tk : t < k) (h : twinN w t k = true) : ∃ j, j < (twB w k).length ∧ at0 (twB w k) j = t := by
  have hm : t ∈ twB w k := List.mem_filter.mpr ⟨mem_ri.mpr (by omega), h⟩
  obtain ⟨j, hj, e⟩ := List.mem_iff_getElem.mp hm
  refine ⟨j, hj, ?_⟩
  unfold at0
  rw [List.getD_eq_getElem?_getD, List.getElem?_eq_getElem (by omega)]
  simpa using e
theorem twB_le {i j : Nat} (hi : i < (twB w k).length) (h : at0 (twB w k) i < at0 (twB w k) j) (hj : j < (twB w k).length) : i < j := by
  rcases Nat.lt_trichotomy i j with z | z | z
  · exact z
  · subst z; omega
  · have := twB_lt z hi; omega
/-- numbers of these twins ascend -/
theorem twB_asc (g : GoodW w) {c : List Int} (cn : CanP w k c) {i j : Nat} (hij : i < j) (hj : j < (twB w k).length) : at0 c (at0 (twB w k) i) < at0 c (at0 (twB w k) j) := by
  have a := twB_at (w := w) (k := k) (j := i) (by omega)
  have b := twB_at (w := w) (k := k) hj
  have l := twB_lt (w := w) (k := k) hij hj
  exact cn _ b.1 b.2.1 _ a.1 l (twin_trans g (by omega) a.2.2 (twin_symm g b.2.2))
/-- more than the first j of the twins -/
def geB (w : Wb) (k : Int) (j : Nat) (c : List Int) : Bool := match j with
  | 0 => true
  | j + 1 => decide (at0 c (at0 (twB w k) j) < at0 c k)
theorem geB_succ (j : Nat) (c : List Int) : geB w k (j + 1) c = decide (at0 c (at0 (twB w k) (j : Nat)) < at0 c k) := rfl
/-- those of rank j -/
def rankL (w : Wb) (top k : Int) (j : Nat) : List (List Int) := (canL w top k).filter fun c => geB w k j c && (decide (j = (twB w k).length) || !geB w k (j + 1) c)
theorem rank_step (g : GoodW w) (k0 : 0 ≤ k) (k1 : k < w.1) {j : Nat} (hj : j < (twB w k).length) : (rankL w top k j).length = (rankL w top k (j + 1)).length := by
  have ta := twB_at (w := w) (k := k) hj
  generalize ha : at0 (twB w k) j = a at *
  have nd : ∀ i, (rankL w top k i).Nodup := fun i => (canL_nd w top k).filter _
  have inj : ∀ i, ∀ x ∈ rankL w top k i, ∀ y ∈ rankL w top k i, pull w.1.toNat (tau a k) x = pull w.1.toNat (tau a k) y → x = y := fun i x hx y hy e => by
    have vx := ((canL_mem g).mp (List.mem_filter.mp hx).1).1.fit.len
    have vy := ((canL_mem g).mp (List.mem_filter.mp hy).1).1.fit.len
    rw [← pull_pull (w := w) (t := a) (p := k) vx (by omega) (by omega), e, pull_pull vy (by omega) (by omega)]
  -- the numbers of a swapped one
  have sw : ∀ c : List Int, ∀ i, 0 ≤ i → i < w.1 → at0 (pull w.1.toNat (tau a k) c) i = at0 c (tau a k i) := fun c i h0 h1 => at0_pull h0 (by omega)
  have swk : ∀ c : List Int, at0 (pull w.1.toNat (tau a k) c) k = at0 c a := fun c => by
    rw [sw c k k0 k1]; unfold tau; rw [if_neg (by omega), if_pos rfl]
  have swa : ∀ c : List Int, at0 (pull w.1.toNat (tau a k) c) a = at0 c k := fun c => by
    rw [sw c a ta.1 (by omega)]; unfold tau; rw [if_pos rfl]
  have swo : ∀ c : List Int, ∀ i, 0 ≤ i → i < w.1 → i ≠ a → i ≠ k → at0 (pull w.1.toNat (tau a k) c) i = at0 c i := fun c i h0 h1 ha hk => by
    rw [sw c i h0 h1]; unfold tau; rw [if_neg ha, if_neg hk]
  -- canonical stays, where c[k] fits between the neighbours of a
  have can : ∀ c : List Int, Val w top c → CanP w k c → (∀ i, i < j → at0 c (at0 (twB w k) i) < at0 c k) → (∀ i, j < i → i < (twB w k).length → at0 c k < at0 c (at0 (twB w k) i)) → CanP w k (pull w.1.toNat (tau a k) c) := by
    intro c v cn lo hi p p0 pk t t0 tp tw
    by_cases pa : p = a
    · subst pa
      have tk : twinN w t k = true := twin_trans g (by omega) tw ta.2.2
      obtain ⟨i, hi1, e⟩ := twB_ex t0 (by omega) tk
      have hij : i < j := twB_le hi1 (by rw [e, ha]; exact tp) hj
      rw [swa, swo c t t0 (by omega) (by omega) (by omega), ← e]
      exact lo i hij
    · by_cases ta' : t = a
      · subst ta'
        have pk' : twinN w p k = true := twin_trans g (by omega) (twin_symm g tw) ta.2.2
        obtain ⟨i, hi1, e⟩ := twB_ex p0 pk pk'
        have hij : j < i := twB_le hj (by rw [e, ha]; exact tp) hi1
        rw [swa, swo c p p0 (by omega) pa (by omega), ← e]
        exact hi i hij hi1
      · rw [swo c t t0 (by omega) ta' (by omega), swo c p p0 (by omega) pa (by omega)]
        exact cn p p0 pk t t0 tp tw
  have vs : ∀ c : List Int, Val w top c → Val w top (pull w.1.toNat (tau a k) c) := fun c v => val_swap g ⟨ta.1, by omega⟩ ⟨k0, k1⟩ ta.2.2 v
  refine Nat.le_antisymm (len_le_map (pull w.1.toNat (tau a k)) (nd j) (fun c hc => ?_) (inj j)) (len_le_map (pull w.1.toNat (tau a k)) (nd (j + 1)) (fun c hc => ?_) (inj (j + 1)))
  · obtain ⟨h1, h2⟩ := List.mem_filter.mp hc
    obtain ⟨v, cn⟩ := (canL_mem g).mp h1
    rw [Bool.and_eq_true] at h2
    have hne : at0 c a ≠ at0 c k := fun e => by have := at0_inj v.fit.nd (by have := v.fit.len; omega) (by have := v.fit.len; omega) e; omega
    have hlt : at0 c k < at0 c a := by
      have := h2.2
      rw [Bool.or_eq_true, decide_eq_true_eq] at this
      rcases this with z | z
      · omega
      · rw [geB_succ, ha] at z
        have : ¬ at0 c a < at0 c k := by simpa using z
        omega
    have lo : ∀ i, i < j → at0 c (at0 (twB w k) i) < at0 c k := fun i hi => by
      cases hj' : j with
      | zero => omega
      | succ j' =>
        rw [hj'] at h2 hi
        have : at0 c (at0 (twB w k) j') < at0 c k := by have z := h2.1; rw [geB_succ] at z; exact of_decide_eq_true z
        by_cases z : i = j'
        · rw [z]; exact this
        · have := twB_asc g cn (i := i) (j := j') (by omega) (by omega); omega
    have hi : ∀ i, j < i → i < (twB w k).length → at0 c k < at0 c (at0 (twB w k) i) := fun i h3 h4 => by
      have := twB_asc g cn h3 h4
      rw [ha] at this
      omega
    refine List.mem_filter.mpr ⟨(canL_mem g).mpr ⟨vs c v, can c v cn lo hi⟩, ?_⟩
    rw [Bool.and_eq_true]
    constructor
    · show decide (at0 _ (at0 (twB w k) j) < at0 _ k) = true
      rw [ha, swa, swk]
      exact decide_eq_true hlt
    · rw [Bool.or_eq_true, decide_eq_true_eq]
      by_cases z : j + 1 = (twB w k).length
      · exact .inl z
      · right
        show (!decide (at0 _ (at0 (twB w k) ((j + 1 : Nat) : Int)) < at0 _ k)) = true
        have b := twB_at (w := w) (k := k) (j := j + 1) (by omega)
        have l := twB_lt (w := w) (k := k) (i := j) (j := j + 1) (by omega) (by omega)
        rw [ha] at l
        have := twB_asc g cn (i := j) (j := j + 1) (by omega) (by omega)
        rw [ha] at this
        rw [swk, swo c _ b.1 (by omega) (by omega) (by omega), decide_eq_false (by omega)]; rfl
  · obtain ⟨h1, h2⟩ := List.mem_filter.mp hc
    obtain ⟨v, cn⟩ := (canL_mem g).mp h1
    rw [Bool.and_eq_true] at h2
    have hlt : at0 c a < at0 c k := by have := h2.1; rw [geB_succ, ha] at this; exact of_decide_eq_true this
    have lo : ∀ i, i < j → at0 c (at0 (twB w k) i) < at0 c k := fun i hi => by
      have := twB_asc g cn hi hj
      rw [ha] at this
      omega
    have hi : ∀ i, j < i → i < (twB w k).length → at0 c k < at0 c (at0 (twB w k) i) := fun i h3 h4 => by
      have := h2.2
      rw [Bool.or_eq_true, decide_eq_true_eq] at this
      rcases this with z | z
      · omega
      · rw [geB_succ] at z
        have z : ¬ at0 c (at0 (twB w k) ((j + 1 : Nat) : Int)) < at0 c k := by simpa using z
        have b := twB_at (w := w) (k := k) (j := j + 1) (by omega)
        have hne : at0 c (at0 (twB w k) ((j + 1 : Nat) : Int)) ≠ at0 c k := fun e => by have := at0_inj v.fit.nd (by have := v.fit.len; omega) (by have := v.fit.len; omega) e; omega
        by_cases y : i = j + 1
        · rw [y]; omega
        · have := twB_asc g cn (i := j + 1) (j := i) (by omega) h4; omega
    refine List.mem_filter.mpr ⟨(canL_mem g).mpr ⟨vs c v, can c v cn lo hi⟩, ?_⟩
    rw [Bool.and_eq_true]
    constructor
    · cases hj' : j with
      | zero => rfl
      | succ j' =>
        have b := twB_at (w := w) (k := k) (j := j') (by omega)
        have l := twB_lt (w := w) (k := k) (i := j') (j := j) (by omega) hj
        rw [ha] at l
        have := twB_asc g cn (i := j') (j := j) (by omega) hj
        rw [ha] at this
        show decide (at0 _ (at0 (twB w k) j') < at0 _ k) = true
        rw [swk, swo c _ b.1 (by omega) (by omega) (by omega)]
        exact decide_eq_true this
    · rw [Bool.or_eq_true]
      right
      show (!decide (at0 _ (at0 (twB w k) j) < at0 _ k)) = true
      rw [ha, swa, swk, decide_eq_false (by omega)]; rfl
theorem rank_all (g : GoodW w) (k0 : 0 ≤ k) (k1 : k < w.1) {j : Nat} (hj : j ≤ (twB w k).length) : (rankL w top k j).length = (rankL w top k (twB w k).length).length := by
  obtain ⟨d, hd⟩ : ∃ d, j + d = (twB w k).length := ⟨(twB w k).length - j, by omega⟩
  induction d generalizing j with
  | zero => rw [show j = (twB w k).length by omega]
  | succ d ih => rw [rank_step g k0 k1 (by omega)]; exact ih (by omega) (by omega)
theorem canL_step (g : GoodW w) (k0 : 0 ≤ k) (k1 : k < w.1) : (canL w top k).length = (1 + (twB w k).length) * (canL w top (k + 1)).length := by
  have last : (rankL w top k (twB w k).length).length = (canL w top (k + 1)).length := by
    refine len_same ((canL_nd w top k).filter _) (canL_nd w top (k + 1)) fun c => ?_
    rw [canL_mem g]
    unfold rankL
    rw [List.mem_filter, canL_mem g, decide_eq_true rfl, Bool.true_or, Bool.and_true]
    constructor
    · rintro ⟨⟨v, cn⟩, h⟩
      refine ⟨v, fun p p0 pk t t0 tp tw => ?_⟩
      by_cases e : p = k
      · subst e
        obtain ⟨i, hi, ei⟩ := twB_ex t0 tp tw
        rw [← ei]
        cases hm : (twB w p).length with
        | zero => omega
        | succ m =>
          rw [hm] at h
          have h : at0 c (at0 (twB w p) m) < at0 c p := by rw [geB_succ] at h; exact of_decide_eq_true h
          by_cases z : i = m
          · rw [z]; exact h
          · have := twB_asc g cn (i := i) (j := m) (by omega) (by omega); omega
      · exact cn p p0 (by omega) t t0 tp tw
    · rintro ⟨v, cn⟩
      refine ⟨⟨v, fun p p0 pk => cn p p0 (by omega)⟩, ?_⟩
      cases hm : (twB w k).length with
      | zero => rfl
      | succ m =>
        have b := twB_at (w := w) (k := k) (j := m) (by omega)
        have := cn k k0 (by omega) _ b.1 b.2.1 b.2.2
        rw [geB_succ]
        exact decide_eq_true this
  have key : ∀ d j, j + d = (twB w k).length → ((canL w top k).filter (geB w k j)).length = (1 + d) * (canL w top (k + 1)).length := by
    intro d
    induction d with
    | zero =>
      intro j hj
      rw [Nat.add_zero] at hj
      subst hj
      rw [Nat.add_zero, Nat.one_mul, ← last]
      unfold rankL
      congr 1
      refine List.filter_congr fun c _ => ?_
      rw [decide_eq_true rfl, Bool.true_or, Bool.and_true]
    | succ d ih =>
      intro j hj
      have sp := filter_split (geB w k j) (geB w k (j + 1)) (canL w top k)
      have e1 : ((canL w top k).filter fun c => geB w k j c && geB w k (j + 1) c).length = ((canL w top k).filter (geB w k (j + 1))).length := by
        congr 1
        refine List.filter_congr fun c hc => ?_
        obtain ⟨v, cn⟩ := (canL_mem g).mp hc
        cases h2 : geB w k (j + 1) c with
        | false => rw [Bool.and_false]
        | true =>
          rw [Bool.and_true]
          cases j with
          | zero => rfl
          | succ j =>
            have h2 : at0 c (at0 (twB w k) ((j + 1 : Nat) : Int)) < at0 c k := by rw [geB_succ] at h2; exact of_decide_eq_true h2
            have := twB_asc g cn (i := j) (j := j + 1) (by omega) (by omega)
            show decide _ = true
            exact decide_eq_true (by omega)
      have e2 : ((canL w top k).filter fun c => geB w k j c && !geB w k (j + 1) c).length = (rankL w top k j).length := by
        unfold rankL
        congr 1
        refine List.filter_congr fun c _ => ?_
        rw [decide_eq_false (by omega), Bool.false_or]
      rw [sp, e1, e2, ih (j + 1) (by omega), rank_all g k0 k1 (by omega), last, show 1 + (d + 1) = (1 + d) + 1 by omega, Nat.add_mul (1 + d), Nat.one_mul]
  have := key (twB w k).length 0 (by omega)
  rw [← this]
  congr 1
  rw [List.filter_eq_self.mpr]
  intro c _
  rfl
end
/-- in how many ways twins can be exchanged -/
def ordN (w : Wb) (ps : List Int) : Int := ps.foldl (fun a p => a * (1 + ((twB w p).length : Int))) 1
theorem ord_snoc (w : Wb) (ps : List Int) (p : Int) : ordN w (ps ++ [p]) = ordN w ps * (1 + ((twB w p).length : Int)) := by unfold ordN; rw [List.foldl_append]; rfl
theorem canL_zero (w : Wb) (top : Int) : canL w top 0 = allN w top := by
  unfold canL
  rw [List.filter_eq_self]
  intro c _
  rfl
theorem count_upto {w : Wb} (g : GoodW w) (top : Int) : ∀ k : Nat, k ≤ w.1.toNat → ((canL w top k).length : Int) * ordN w (ri 0 k) = (allN w top).length
  | 0, _ => by rw [show ((0 : Nat) : Int) = 0 from rfl, canL_zero]; show _ * (1 : Int) = _; omega
  | k + 1, h => by
    have ih := count_upto g top k (by omega)
    rw [canL_step g (k := (k : Int)) (by omega) (by omega)] at ih
    rw [ri_succ, ord_snoc, Int.zero_add, ← ih, show ((k + 1 : Nat) : Int) = (k : Int) + 1 by omega]
    rw [Int.natCast_mul, Int.natCast_add, Int.mul_comm (ordN w (ri 0 k)), ← Int.mul_assoc, Int.mul_comm (((canL w top ((k : Int) + 1)).length : Nat) : Int)]
    rfl
/-! ### the canonical ones, level by level -/
def fromStep (w : Wb) (top : Int) (l : List (List Int × List Int)) : List (List Int × List Int) := l.foldl (fun a x => a ++ nextN (planN w) top x.1 0 x.2) []
def fromL (w : Wb) (top : Int) (ps : List Int) : List (List Int × List Int) := ps.foldl (fun l _ => fromStep w top l) [([], [])]
def fromN (w : Wb) (top : Int) : List (List Int) := (fromL w top (ri 0 w.1.toNat)).map fun x => x.1
theorem fromStep_flat (w : Wb) (top : Int) (l : List (List Int × List Int)) : fromStep w top l = l.flatMap fun x => nextN (planN w) top x.1 0 x.2 := by
  unfold fromStep
  rw [fold_app_eq, List.nil_append]
theorem fromL_snoc (w : Wb) (top : Int) (ps : List Int) (p : Int) : fromL w top (ps ++ [p]) = fromStep w top (fromL w top ps) := by unfold fromL; rw [List.foldl_append]; rfl
theorem fromL_len (w : Wb) (top : Int) : ∀ k : Nat, ∀ x ∈ fromL w top (ri 0 k), x.1.length = k
  | 0, x, h => by
    have : x = ([], []) := by simpa [fromL, ri] using h
    rw [this]; rfl
  | k + 1, x, h => by
    rw [ri_succ, fromL_snoc, fromStep_flat] at h
    obtain ⟨y, hy, hx⟩ := List.mem_flatMap.mp h
    obtain ⟨n, rfl, _⟩ := next_mem_iff.mp hx
    have := fromL_len w top k y hy
    simp [this]
theorem from_tree (w : Wb) (top : Int) : ∀ (k : Nat), k ≤ w.1.toNat → treeN (planN w) top 0 w.1.toNat [] [] = (fromL w top (ri 0 k)).flatMap fun x => treeN (planN w) top 0 (w.1.toNat - k) x.1 x.2
  | 0, _ => by
    show _ = [(([] : List Int), ([] : List Int))].flatMap _
    simp
  | k + 1, h => by
    rw [from_tree w top k (by omega), ri_succ, fromL_snoc, fromStep_flat, List.flatMap_assoc]
    rw [List.flatMap_def, List.flatMap_def]
    congr 1
    refine List.map_congr_left fun x hx => ?_
    have hl := fromL_len w top k x hx
    obtain ⟨m, hm⟩ : ∃ m, w.1.toNat - k = m + 1 := ⟨w.1.toNat - k - 1, by omega⟩
    rw [hm, show w.1.toNat - (k + 1) = m by omega]
    show (if x.1.length = (planN w).length then [x.1] else _) = _
    rw [planN_len', if_neg (by omega)]
theorem from_is (w : Wb) (top : Int) : fromN w top = treeN (planN w) top 0 w.1.toNat [] [] := by
  rw [from_tree w top w.1.toNat (Nat.le_refl _)]
  unfold fromN
  have : ∀ l : List (List Int × List Int), (∀ x ∈ l, x.1.length = w.1.toNat) → (l.map fun x => x.1) = l.flatMap fun x => treeN (planN w) top 0 (w.1.toNat - w.1.toNat) x.1 x.2 := by
    intro l
    induction l with
    | nil => intro _; rfl
    | cons x l ih =>
      intro h
      rw [List.map_cons, List.flatMap_cons, ih fun y hy => h y (List.mem_cons_of_mem _ hy)]
      have hx := h x List.mem_cons_self
      rw [Nat.sub_self]
      show _ = (if x.1.length = (planN w).length then [x.1] else []) ++ _
      rw [planN_len', if_pos hx]; rfl
  exact this _ fun x hx => fromL_len w top _ x hx
theorem from_mem {w : Wb} (g : GoodW w) {top : Int} {c : List Int} : c ∈ fromN w top ↔ Val w top c ∧ CanP w w.1 c := by
  rw [from_is]
  have h := tree_mem g (top := top) (fixed := 0) w.1.toNat [] (by simp) ((lev_mem g top 0 []).mp (by unfold lev; simp [ri])) c
  have hu : usedN (planN w) [] = [] := rfl
  rw [hu] at h
  rw [h]
  constructor
  · rintro ⟨_, v, cn⟩
    exact ⟨v, fun p p0 pk t t0 tp tw => cn p p0 pk t t0 t0 tp tw⟩
  · rintro ⟨v, cn⟩
    exact ⟨⟨c, rfl⟩, v, fun p p0 pk t t0 _ tp tw => cn p p0 pk t t0 tp tw⟩
theorem from_nd (w : Wb) (top : Int) : (fromN w top).Nodup := by rw [from_is]; exact lx_nodup (tree_sorted _ _ _ _ _ _)
/-- count_good counts all -/
theorem count_is {w : Wb} (g : GoodW w) (top : Int) : ((fromN w top).length : Int) * ordN w (ri 0 w.1.toNat) = (allN w top).length := by
  have lo := g.lo
  have e : (fromN w top).length = (canL w top w.1).length := len_same (from_nd w top) (canL_nd w top w.1) fun c => by rw [from_mem g, canL_mem g]
  rw [e]
  have := count_upto g top w.1.toNat (Nat.le_refl _)
  rw [show ((w.1.toNat : Nat) : Int) = w.1 by omega] at this
  exact this
end U
/-! SetL: sorted(set(list of ints)). -/
namespace DL
open PySem PySem.Spec PyProof.Rows L2 U
open Evl (Ex)
/-- a new set -/
abbrev so (w : World) : Obj := { cls := .type "set", dict := none, data := .set #[] 0 (.fresh 0 0 (!w.params.followText "set-order")) }
/-- the walk over a list -/
abbrev lit (l : Addr) : Obj := { cls := .type "list_iterator", data := .fields #[.ref l, .int 0 0] }
section
variable {P : Program} {w : World} {A : Around} {E : Value → Shared → Prop} {s : Shared}
/-- what the filled set is -/
def FilledS (w : World) (s : Shared) (ns : List Int) : Value → Shared → Prop := fun r s₂ => r = .none ∧ ∃ h' tk c, s₂ = { s with heap := h', toks := tk } ∧ SetR w h' s.heap.objs.size (fun j => decide (j ∈ ns)) c ∧ c ≤ ns.length ∧ (∀ b o, s.heap.get? b = some o → h'.get? b = some o)
set_option maxHeartbeats 8000000 in
theorem call_set_listR {l : Addr} {xs : Array Value} (ns : List Int) {Q : Value → Shared → Prop} (hh : A.handled = none) (hl : s.heap.IsList l xs) (hit : IntsAre xs.toList ns) (hb : ns.length + 1 < scanBound)
    (h : ∀ (h' : Heap) (tk c : Nat), SetR w h' s.heap.objs.size (fun j => decide (j ∈ ns)) c → c ≤ ns.length → (∀ b o, s.heap.get? b = some o → h'.get? b = some o) → Q (.ref s.heap.objs.size) { s with heap := h', toks := tk }) :
    wpAny (model P w) A (call (.type "set") [.ref l]) Q E s := by
  have hxs : xs.size = ns.length := by have q := hit.length; rw [Array.length_toList] at q; exact q
  have m1 := F.called_set.mro
  obtain ⟨c0, t0, m1⟩ := m1
  have m2 := F.called_set.made
  have m3 := F.called_set.sub
  have m4 := F.called_set.notType
  have m5 := F.called_set.canCreate
  have m6 := F.typeCall_set_1 (.ref l)
  refine wpAny_call (codeAny_of_tree (show wpAny _ _ (callAny (.type "set") _) _ _ _ from wpAny_pure ⟨Code.quiet_builtin _ (by decide +kernel), codeAny_builtin F.entry_type_call ?_⟩))
  rw [Around.under_plain (weight_type_call_type "set" [.ref l] []) rfl]
  repeat (any_goals (first | assumption | wp_step))
  refine codeAny_mono (code_set_led1 (.ref l) (E := E) (Q₁ := fun ob s₁ => ob = .ref s.heap.objs.size ∧ s₁ = { s with heap := s.heap.push (so w) }) ⟨rfl, rfl⟩) fun r s₁ hr => ?_
  cases r with
  | error e => exact hr
  | ok fl =>
    cases fl with
    | ret ob =>
      obtain ⟨rfl, rfl⟩ := hr
      have gS : (s.heap.push (so w)).get? s.heap.objs.size = some (so w) := Heap.get?_push_size _ rfl
      have hT : Shared.TypeIs { s with heap := s.heap.push (so w) } (.ref s.heap.objs.size) "set" := ⟨_, gS, rfl⟩
      have m7 := F.called_set.init.lookup
      have m8 := F.called_set.init.bind (.ref s.heap.objs.size)
      repeat (any_goals (first | assumption | wp_step))
      refine codeAny_mono (codeAny_call_builtin (R := wants (FilledS w s ns) E) F.called_set.init.plain F.entry_set_init (check_set_init_1 hT ?_)) fun r₂ s₂ hr₂ => ?_
      · obtain ⟨⟨ocls, od, odata, osl⟩, hol, hcl, nl, hdl⟩ := hl
        simp only at hcl hdl
        subst hcl hdl
        have hol' : (s.heap.push (so w)).get? l = some { cls := .type "list", dict := od, data := .seq xs nl, slots := osl } := Heap.get?_push_of_some _ hol
        have n1 := F.sub_list_set
        have n2 := F.sub_list_frozenset
        have n3 : (Value.type "list" == Value.type "dict") = false := by decide
        have hl1 : (s.heap.push (so w)).IsList l xs := ⟨_, hol', rfl, nl, rfl⟩
        unfold Builtin.«set.__init__» noKeywords Builtin.Frozenset.updateFrom
        generalize hPI : pyIter = PI
        wp_walk
        subst hPI
        refine wpAny_pyIter_list hl1 (wpAny_bind (wpAny_runValue ?_))
        have hlS : l < s.heap.objs.size := Heap.lt_size hol
        have sz : (s.heap.push (so w)).objs.size = s.heap.objs.size + 1 := Heap.size_push ..
        have d1 : ∀ {b : Addr}, b < s.heap.objs.size → b ≠ s.heap.objs.size + 1 := fun hb => Nat.ne_of_lt (Nat.lt_succ_of_lt hb)
        have d2 : s.heap.objs.size ≠ s.heap.objs.size + 1 := Nat.ne_of_lt (Nat.lt_succ_self _)
        have val : ∀ (i : Nat) (v : Value), xs[i]? = some v → ∃ k t, ns[i]? = some k ∧ v = .int k t := fun i v hv => by
          have hi : i < ns.length := by rw [← hxs]; exact (Array.getElem?_eq_some_iff.mp hv).1
          obtain ⟨t, e⟩ := hit.int_at i v (by rw [Array.getElem?_toList]; exact hv)
          exact ⟨ns[i], t, List.getElem?_eq_getElem hi, by rw [e, List.getD_eq_getElem?_getD, List.getElem?_eq_getElem hi]; rfl⟩
        refine set_update_ints ((Walks.list (by simp [hh]) _ l (by rw [sz]; exact d1 hlS) xs).toS) s.heap.objs.size (by rw [sz]; simp only [List.mem_cons, List.not_mem_nil, or_false, not_or]; exact ⟨d2, Nat.ne_of_gt hlS⟩) ns hxs hb val (xs.size - 0) 0 _ (by omega) (Nat.zero_le _)
          ⟨⟨_, Heap.get?_push_size _ rfl, rfl, rfl⟩, (hl1.push _)⟩ ⟨0, Nat.le_refl 0, setR_new_at (show ((s.heap.push (so w)).push (lit l)).get? s.heap.objs.size = some (so w) from Heap.get?_push_of_some _ gS)⟩ ?_
        rintro ⟨h', g2, d', tk', os'⟩ c' hm hc' hS'
        have eg : g2 = s.gens := hm.gens
        have ed : d' = s.drawn := hm.drawn
        have eo : os' = s.os := hm.os
        subst eg ed eo
        rw [hxs] at hc'
        refine wpAny_pure (show wpAny _ _ (ret Value.none) _ _ _ from wpAny_pure ⟨rfl, h', tk', c', rfl, hS', hc', fun b o e => ?_⟩)
        have hb0 : b < s.heap.objs.size := Heap.lt_size e
        exact hm.heap b o (by rw [sz]; simp only [List.mem_cons, List.not_mem_nil, or_false, not_or]; exact ⟨Nat.ne_of_lt hb0, d1 hb0⟩) (Heap.get?_push_of_some _ (Heap.get?_push_of_some _ e))
      · cases r₂ with
        | error e => exact hr₂
        | ok fl₂ =>
          cases fl₂ with
          | ret r =>
            obtain ⟨rfl, h', tk, c', rfl, hS', hc', hk'⟩ := hr₂
            repeat (any_goals (first | assumption | wp_step))
            exact h _ _ _ hS' hc' hk'
          | _ => exact hr₂.elim
    | _ => exact hr.elim
end
/-- set(xs), to be sorted -/
def rSetR (w : World) (K : PySem.W.Frag) : List V → Hp → VK → Prop := fun vs H Q => ∃ (a : Addr) (ns : List Int), vs = [V.ref a] ∧ SqL K H a (ns.map V.int) ∧ ns.length ≤ 4000 ∧
  ∀ (p : Addr), H p = none → Q (.ref p) (upd H p (SetO w p (fun j => decide (j ∈ ns)) (dcount ns)))
theorem cr_setR {X : Cx} (hc : X.calm = true) : CallR X (.type "set") (rSetR X.w X.K) := by
  intro pins s σ H vs us Q I r h
  obtain ⟨a, ns, rfl, hs, hl, q⟩ := h
  rw [Vals.ref1 r]
  obtain ⟨its, rv, pl, hz⟩ := I.list hs
  refine call_set_listR ns (I.ok.hd hc) pl.isList (by simpa using ints_vals rv) (by unfold scanBound; omega) fun h' tk c hS hc' hk => ?_
  have e : c = dcount ns := by
    obtain ⟨o, es, ep, t, ho, hx, hd, g, nd, hm, hb, hf, hn, _⟩ := id hS
    rw [← hn, ← dcount_is nd fun k => by rw [← hm k]; simp]
    simp
  subst e
  exact ⟨.ref _, upd H s.heap.objs.size (SetO X.w s.heap.objs.size (fun j => decide (j ∈ ns)) (dcount ns)), I.laid (t' := tk) hk (Nat.le_refl _) (setO_new hS), rfl, q _ (I.hok.fresh (Nat.le_refl _))⟩
theorem setRK {X : Cx} {K : PySem.W.Frag} {w : World} (h : X.K = K) (hw : X.w = w) (hc : X.calm = true) : CallR X (.type "set") (rSetR w K) := by subst h hw; exact cr_setR hc
theorem srtSK {X : Cx} {w : World} (hw : X.w = w) (hc : X.calm = true) : CallR X (.builtin "sorted") (rSortedSet w) := by subst hw; exact cr_sortedSet hc
/-- the sorted set of a list -/
def setI (ns : List Int) : List Int := sortI (dd ns)
theorem setI_mem (ns : List Int) (k : Int) : k ∈ setI ns ↔ k ∈ ns := by unfold setI; rw [(sortI_perm _).mem_iff, dd_mem]
theorem lt_of_nd : ∀ {l : List Int}, l.Pairwise (· ≤ ·) → l.Nodup → l.Pairwise (· < ·)
  | [], _, _ => List.Pairwise.nil
  | x :: l, h, d => by
    obtain ⟨h1, h2⟩ := List.pairwise_cons.mp h
    obtain ⟨d1, d2⟩ := List.nodup_cons.mp d
    exact List.pairwise_cons.mpr ⟨fun y hy => by have a := h1 y hy; have b : x ≠ y := fun z => d1 (z ▸ hy); omega, lt_of_nd h2 d2⟩
theorem setI_lt (ns : List Int) : (setI ns).Pairwise (· < ·) := lt_of_nd (sortI_sorted _) ((sortI_perm _).nodup_iff.mpr (dd_nodup ns))
theorem sorted_same {a b : List Int} (ha : a.Pairwise (· < ·)) (hb : b.Pairwise (· < ·)) (h : ∀ k, k ∈ a ↔ k ∈ b) : a = b := by
  have na : a.Nodup := ha.imp fun h => by omega
  have nb : b.Nodup := hb.imp fun h => by omega
  have p : a.Perm b := perm_of_sub na (fun x hx => (h x).mp hx) (len_le_of_sub nb fun x hx => (h x).mpr hx)
  have q := sortI_is p (ha.imp fun h => by omega)
  rw [q]
  exact (sortI_is (List.Perm.refl b) (hb.imp fun h => by omega)).symm
theorem setI_is {ns ms : List Int} (h : ms.Pairwise (· < ·)) (hm : ∀ k, k ∈ ms ↔ k ∈ ns) : ms = setI ns := sorted_same h (setI_lt ns) fun k => by rw [hm, setI_mem]
theorem setI_congr {ns ms : List Int} (h : ∀ k, k ∈ ns ↔ k ∈ ms) : setI ns = setI ms := setI_is (setI_lt ns) fun k => by rw [setI_mem, h]
theorem el_sortedSet {T : TL} {te : TE} {ρ ρ1 : List Sl} {K : PySem.W.Frag} {w : World} {ns : List Int} (h : EE T te ρ (eL ns) ρ1) (hl : ns.length ≤ 4000) (h64 : dcount ns < 64) : EL T (tCB (rSortedSet w) (tCons (tCB (rSetR w K) (tCons te tNil)) tNil)) ρ ((setI ns).map PyData.int) ρ1 := fun F W B H σ Q E k =>
  h F W B H σ _ E fun v B1 H1 e1 E1 q1 => by
    obtain ⟨a, xs, rfl, hb, q⟩ := q1.inv_lst
    have ex := q.ints
    refine ⟨a, ns, rfl, SqL.of (by rw [← ex]; exact E1.bh _ _ hb), hl, fun p hp => ?_⟩
    have g1 := Grow.junk (o := SetO w p (fun j => decide (j ∈ ns)) (dcount ns)) E1.bh hp
    have E2 := E1.grow g1
    refine ⟨p, fun j => decide (j ∈ ns), dcount ns, rfl, upd_same, h64, fun ms r h1 h2 h3 hr => ?_⟩
    · have e : ms = setI ns := setI_is h1 fun k => by rw [h2, decide_eq_true_eq]
      rw [e]
      have g2 := Grow.junk (o := .lst ((setI ns).map V.int)) E2.bh hr
      exact k r _ B1 _ e1 (E2.grow g2) (Evl.fresh_back E2.bh hr) (Evl.fresh_back E2.fh hr) upd_same (DtAll.of_ints _) (E2.notOwn hr)
end DL
namespace U
open PySem L2 DL
theorem flip_val {w : Wb} (g : GoodW w) {c : List Int} (v : Val w (topW w) c) : Val w (topW w) (flipN w c) := by
  rw [← goodN_iff, good_flip g v.fit, goodN_iff]; exact v
theorem pow_small {v : Wb} {top : Int} (h : v.1 ≤ 5) (ht : top ≤ 7) : (top + 1).toNat ^ v.1.toNat ≤ 90000 := by
  refine Nat.le_trans (Nat.pow_le_pow_left (show (top + 1).toNat ≤ 8 by omega) _) ?_
  exact Nat.le_trans (Nat.pow_le_pow_right (by decide) (show v.1.toNat ≤ 5 by omega)) (by decide)
theorem row3_ok : webB (eW (3, [(0, 1), (1, 2)])) = true ∧ firstFrom (3, [(0, 1), (1, 2)]) 2 [] = some [0, 2, 1] := by decide +kernel
theorem two_ok : webB (eW (2, [])) = true ∧ firstFrom (2, []) 0 [] = none := by decide +kernel
end U
/-! LevB: how large the levels of the law's numberings are. -/
namespace U
open PySem L2 DL
theorem ri_take (lo : Int) : ∀ (n k : Nat), k ≤ n → (ri lo n).take k = ri lo k := fun n k h => by
  unfold ri
  rw [← List.map_take, List.take_range, Nat.min_eq_left h]
theorem ext_few {w : Wb} {top : Int} {p : Int} {s : List Int} (nd : s.Nodup) (rg : ∀ n ∈ s, 0 ≤ n ∧ n ≤ top) : (extOf w top p s).length + s.length ≤ (top + 1).toNat := by
  have e : (extOf w top p s).length = ((ri 0 (top + 1).toNat).filter (okExt w p s)).length := by unfold extOf; rw [List.length_map]
  have nd2 : (((ri 0 (top + 1).toNat).filter (okExt w p s)) ++ s).Nodup := by
    rw [List.nodup_append]
    refine ⟨(ri_nodup _ _).filter _, nd, fun a ha b hb z => ?_⟩
    subst z
    have := (List.mem_filter.mp ha).2
    unfold okExt at this
    simp at this
    exact this.1 hb
  have := len_le_of_sub (m := ri 0 (top + 1).toNat) nd2 fun x hx => by
    rcases List.mem_append.mp hx with h | h
    · exact (List.mem_filter.mp h).1
    · exact mem_ri.mpr (by have := rg x h; omega)
  rw [List.length_append, ri_len] at this
  omega
theorem flat_len2 {α β : Type} (g : α → List β) (k : Nat) : ∀ l : List α, (∀ a ∈ l, (g a).length ≤ k) → ((l.map g).flatten).length ≤ l.length * k
  | [], _ => by simp
  | a :: l, h => by
    have h1 := h a List.mem_cons_self
    have h2 := flat_len2 g k l fun b hb => h b (List.mem_cons_of_mem _ hb)
    rw [List.map_cons, List.flatten_cons, List.length_append, List.length_cons, Nat.add_mul, Nat.one_mul]
    omega
theorem lev_few {w : Wb} (g : GoodW w) {top : Int} (k : Nat) : (lev w top (k + 1)).length ≤ (lev w top k).length * ((top + 1).toNat - k) := by
  rw [lev_succ]
  unfold allStep
  refine flat_len2 _ _ _ fun s hs => ?_
  have pv := (lev_mem g top k s).mp hs
  have := ext_few (w := w) (p := k) pv.nd pv.rg
  have := pv.len
  omega
/-- seven numbers, five places -/
theorem all_2520 {w : Wb} (g : GoodW w) (h5 : w.1 ≤ 5) {top : Int} (ht : top ≤ 6) : (allN w top).length ≤ 2520 := by
  have m : (top + 1).toNat ≤ 7 := by omega
  have l0 : (lev w top 0).length = 1 := rfl
  have l1 : (lev w top 1).length ≤ 7 := Nat.le_trans (lev_few g 0) (by rw [l0]; omega)
  have l2 : (lev w top 2).length ≤ 42 := Nat.le_trans (lev_few g 1) (Nat.le_trans (Nat.mul_le_mul l1 (show (top + 1).toNat - 1 ≤ 6 by omega)) (by decide))
  have l3 : (lev w top 3).length ≤ 210 := Nat.le_trans (lev_few g 2) (Nat.le_trans (Nat.mul_le_mul l2 (show (top + 1).toNat - 2 ≤ 5 by omega)) (by decide))
  have l4 : (lev w top 4).length ≤ 840 := Nat.le_trans (lev_few g 3) (Nat.le_trans (Nat.mul_le_mul l3 (show (top + 1).toNat - 3 ≤ 4 by omega)) (by decide))
  have l5 : (lev w top 5).length ≤ 2520 := Nat.le_trans (lev_few g 4) (Nat.le_trans (Nat.mul_le_mul l4 (show (top + 1).toNat - 4 ≤ 3 by omega)) (by decide))
  have lo := g.lo
  show (lev w top w.1.toNat).length ≤ 2520
  have : w.1.toNat = 1 ∨ w.1.toNat = 2 ∨ w.1.toNat = 3 ∨ w.1.toNat = 4 ∨ w.1.toNat = 5 := by omega
  rcases this with e | e | e | e | e <;> rw [e] <;> omega
end U
/-! Cnt2: possible numbers; sizes of the levels. -/
namespace U
open PySem L2 DL
theorem near_len' (v : Wb) (p : Int) : (nearN v p).length ≤ v.2.length := by unfold nearN; rw [List.length_map]; exact List.length_filter_le _ _
theorem planN_wf' {v : Wb} (g : GoodW v) : WfPl (planN v) := fun i hi => by
  rw [planN_len'] at hi
  rw [planN_at' v hi]
  have h6 := g.hi
  have h15 := lines15 g
  have lf := List.length_filter_le (fun o => decide (o < (i : Int))) (nearN v i)
  have ln := near_len' v i
  have lr := List.length_filter_le (fun o => twinN v o i) (ri 0 ((i : Int)).toNat)
  rw [ri_len] at lr
  refine ⟨fun x hx => ?_, fun x hx => ?_, by show (List.filter _ _).length ≤ 20; omega, by show (List.filter _ _).length ≤ 20; omega⟩
  · obtain ⟨h1, h2⟩ := List.mem_filter.mp hx
    exact ⟨(adj_ne g ((mem_near g).mp h1)).2.2.1, of_decide_eq_true h2⟩
  · have := mem_ri.mp (List.mem_filter.mp hx).1
    omega
theorem next_len {pl : Pl} {top fixed : Int} {b used : List Int} : (nextN pl top b fixed used).length ≤ (top + 1).toNat := by
  unfold nextN
  rw [List.length_map]
  have h := List.length_filter_le (okNext (plAt pl b.length) b used) (ri (lowN (plAt pl b.length).2 b fixed + 1) (top + 1 - (lowN (plAt pl b.length).2 b fixed + 1)).toNat)
  rw [ri_len] at h
  have := (fmax_ge (((plAt pl b.length).2.filter fun t => decide (fixed ≤ t)).map (at0 b)) (-1)).1
  have e : lowN (plAt pl b.length).2 b fixed = (((plAt pl b.length).2.filter fun t => decide (fixed ≤ t)).map (at0 b)).foldl max (-1) := rfl
  rw [← e] at this
  omega
theorem fromStep_len (w : Wb) (top : Int) (l : List (List Int × List Int)) : (fromStep w top l).length ≤ l.length * (top + 1).toNat := by
  rw [fromStep_flat, List.flatMap_def]
  exact flat_len _ _ (fun x => next_len) l
theorem fromL_size (w : Wb) (top : Int) : ∀ (ps : List Int) (l : List (List Int × List Int)), (ps.foldl (fun l _ => fromStep w top l) l).length ≤ l.length * (top + 1).toNat ^ ps.length
  | [], l => by simp
  | p :: ps, l => by
    have h1 := fromStep_len w top l
    have h2 := fromL_size w top ps (fromStep w top l)
    rw [List.foldl_cons, List.length_cons, Nat.pow_succ, Nat.mul_comm ((top + 1).toNat ^ ps.length), ← Nat.mul_assoc]
    exact Nat.le_trans h2 (Nat.mul_le_mul_right _ h1)
/-- what the elements of a level keep -/
theorem fromL_ok {w : Wb} (g : GoodW w) {top : Int} (ht : top ≤ 100) : ∀ k : Nat, k ≤ w.1.toNat → ∀ x ∈ fromL w top (ri 0 k), x.1.length = k ∧ (∀ n ∈ x.1, n ≤ 100) ∧ x.2.length ≤ 20 * k
  | 0, _, x, h => by
    have : x = ([], []) := by simpa [fromL, ri] using h
    rw [this]
    exact ⟨rfl, (fun _ h => by cases h), by simp⟩
  | k + 1, hk, x, h => by
    rw [ri_succ, fromL_snoc, fromStep_flat] at h
    obtain ⟨y, hy, hx⟩ := List.mem_flatMap.mp h
    obtain ⟨a1, a2, a3⟩ := fromL_ok g ht k (by omega) y hy
    obtain ⟨n, rfl, _, hn, _⟩ := next_mem_iff.mp hx
    have w3 := (planN_wf' g y.1.length (by rw [planN_len']; omega)).2.2.1
    have ld : (diffs (plAt (planN w) y.1.length).1 y.1 n).length = (plAt (planN w) y.1.length).1.length := by unfold diffs; rw [List.length_map]
    refine ⟨by simp [a1], fun m hm => ?_, by show (y.2 ++ diffs _ y.1 n).length ≤ _; rw [List.length_append]; omega⟩
    rcases List.mem_append.mp hm with z | z
    · exact a2 m z
    · have : m = n := by simpa using z
      omega
/-! ### possible numbers -/
def twL (w : Wb) (p : Int) : List Int := (ri 0 w.1.toNat).filter fun o => decide (o = p) || twinN w o p
def foundP (w : Wb) (p : Int) (cs : List (List Int)) : List Int := cs.foldl (fun l c => l ++ (twL w p).map (at0 c)) []
def posN (w : Wb) (p : Int) : List Int := setI (foundP w p (fromN w (topW w)))
theorem twL_mem {w : Wb} {p o : Int} : o ∈ twL w p ↔ (0 ≤ o ∧ o < w.1) ∧ (o = p ∨ twinN w o p = true) := by
  unfold twL
  rw [List.mem_filter, mem_ri, Bool.or_eq_true, decide_eq_true_eq]
  constructor
  · rintro ⟨h1, h2⟩; exact ⟨by omega, h2⟩
  · rintro ⟨h1, h2⟩; exact ⟨by omega, h2⟩
theorem found_mem {w : Wb} {p : Int} {cs : List (List Int)} {k : Int} : k ∈ foundP w p cs ↔ ∃ c ∈ cs, ∃ o ∈ twL w p, at0 c o = k := by
  unfold foundP
  rw [fold_app_eq, List.nil_append, List.mem_flatMap]
  constructor
  · rintro ⟨c, hc, h⟩
    obtain ⟨o, ho, e⟩ := List.mem_map.mp h
    exact ⟨c, hc, o, ho, e⟩
  · rintro ⟨c, hc, o, ho, e⟩
    exact ⟨c, hc, List.mem_map.mpr ⟨o, ho, e⟩⟩
theorem twL_swap {w : Wb} (g : GoodW w) {p t q o : Int} (ht : 0 ≤ t ∧ t < w.1) (hq : 0 ≤ q ∧ q < w.1) (tw : twinN w t q = true) (ho : o ∈ twL w p) : tau t q o ∈ twL w p := by
  obtain ⟨h1, h2⟩ := twL_mem.mp ho
  unfold tau
  by_cases e1 : o = t
  · subst e1
    rw [if_pos rfl]
    refine twL_mem.mpr ⟨hq, ?_⟩
    by_cases e : q = p
    · exact .inl e
    · right
      rcases h2 with rfl | h2
      · exact twin_symm g tw
      · exact twin_trans g e (twin_symm g tw) h2
  · rw [if_neg e1]
    by_cases e2 : o = q
    · subst e2
      rw [if_pos rfl]
      refine twL_mem.mpr ⟨ht, ?_⟩
      by_cases e : t = p
      · exact .inl e
      · right
        rcases h2 with rfl | h2
        · exact tw
        · exact twin_trans g e tw h2
    · rw [if_neg e2]; exact ho
theorem pos_all {w : Wb} (g : GoodW w) {top p : Int} (hp : 0 ≤ p ∧ p < w.1) (k : Int) : k ∈ foundP w p (fromN w top) ↔ k ∈ (allN w top).map fun c => at0 c p := by
  rw [found_mem, List.mem_map]
  constructor
  · rintro ⟨c, hc, o, ho, rfl⟩
    obtain ⟨v, _⟩ := (from_mem g).mp hc
    obtain ⟨h1, h2⟩ := twL_mem.mp ho
    rcases h2 with rfl | h2
    · exact ⟨c, (all_mem g).mpr v, rfl⟩
    · by_cases e : o = p
      · subst e; exact ⟨c, (all_mem g).mpr v, rfl⟩
      · refine ⟨pull w.1.toNat (tau o p) c, (all_mem g).mpr (val_swap g h1 hp h2 v), ?_⟩
        rw [at0_pull (by omega) (by omega)]
        unfold tau
        rw [if_neg (fun z => e z.symm), if_pos rfl]
  · rintro ⟨c, hc, rfl⟩
    -- the first of those that have the number at a twin of p
    have hS : c ∈ (allN w top).filter fun d => (twL w p).any fun o => decide (at0 d o = at0 c p) := by
      refine List.mem_filter.mpr ⟨hc, ?_⟩
      rw [List.any_eq_true]
      exact ⟨p, twL_mem.mpr ⟨hp, .inl rfl⟩, decide_eq_true rfl⟩
    have srt : ((allN w top).filter fun d => (twL w p).any fun o => decide (at0 d o = at0 c p)).Pairwise Lx := (all_sorted w top).filter _
    cases e : ((allN w top).filter fun d => (twL w p).any fun o => decide (at0 d o = at0 c p)).head? with
    | none =>
      rw [List.head?_eq_none_iff.mp e] at hS
      cases hS
    | some d =>
      obtain ⟨h1, h2⟩ := List.mem_filter.mp (List.mem_of_head? e)
      obtain ⟨o, ho, h3⟩ := List.any_eq_true.mp h2
      have h3 := of_decide_eq_true h3
      have v := (all_mem g).mp h1
      refine ⟨d, (from_mem g).mpr ⟨v, fun q q0 qk t t0 tq tw => ?_⟩, o, ho, h3⟩
      rcases swap_ne v t0 tq qk with z | z
      · exact z
      · exfalso
        have less := swap_less v.fit.len t0 tq qk z
        have v' := val_swap g ⟨t0, by omega⟩ ⟨q0, qk⟩ tw v
        have h4 : pull w.1.toNat (tau t q) d ∈ (allN w top).filter fun d => (twL w p).any fun o => decide (at0 d o = at0 c p) := by
          refine List.mem_filter.mpr ⟨(all_mem g).mpr v', ?_⟩
          rw [List.any_eq_true]
          have hso := twL_swap g ⟨t0, by omega⟩ ⟨q0, qk⟩ tw ho
          have hr := (twL_mem.mp hso).1
          refine ⟨tau t q o, hso, decide_eq_true ?_⟩
          rw [at0_pull hr.1 (by omega), tau_tau]
          exact h3
        rcases head_least srt e h4 with y | y
        · rw [y, Lx, lx_irrefl] at less; cases less
        · rw [Lx, lx_not y] at less; cases less
theorem pos_is {w : Wb} (g : GoodW w) {p : Int} (hp : 0 ≤ p ∧ p < w.1) : posN w p = setI ((allN w (topW w)).map fun c => at0 c p) := by
  unfold posN
  exact setI_congr (pos_all g hp)
/-- turned round with the top they are the same -/
theorem pos_flip {w : Wb} (g : GoodW w) {p : Int} (hp : 0 ≤ p ∧ p < w.1) : sortI ((posN w p).map fun n => topW w - n) = posN w p := by
  have hm : ∀ k, k ∈ posN w p → topW w - k ∈ posN w p := fun k hk => by
    rw [pos_is g hp, setI_mem, List.mem_map] at hk ⊢
    obtain ⟨c, hc, rfl⟩ := hk
    have v := (all_mem g).mp hc
    refine ⟨flipN w c, (all_mem g).mpr (flip_val g v), ?_⟩
    exact at0_flip hp.1 (by have := v.fit.len; omega)
  have nd : ((posN w p).map fun n => topW w - n).Nodup := nodup_map ((setI_lt _).imp fun h => by omega) fun x _ y _ e => by omega
  refine sorted_same (lt_of_nd (sortI_sorted _) ((sortI_perm _).nodup_iff.mpr nd)) (setI_lt _) fun k => ?_
  rw [(sortI_perm _).mem_iff, List.mem_map]
  constructor
  · rintro ⟨n, hn, rfl⟩; exact hm n hn
  · intro hk
    exact ⟨topW w - k, hm k hk, by omega⟩
/-- how many they can be -/
theorem pos_rg {w : Wb} (g : GoodW w) {p : Int} (hp : 0 ≤ p ∧ p < w.1) : ∀ k ∈ (allN w (topW w)).map fun c => at0 c p, 0 ≤ k ∧ k ≤ topW w := fun k hk => by
  obtain ⟨c, hc, rfl⟩ := List.mem_map.mp hk
  have v := (all_mem g).mp hc
  exact v.fit.rg _ (at0_mem hp.1 (by have := v.fit.len; omega))
theorem dcount_rg {ns : List Int} {t : Int} (h : ∀ k ∈ ns, 0 ≤ k ∧ k ≤ t) : dcount ns ≤ (t + 1).toNat := by
  have := len_le_of_sub (m := ri 0 (t + 1).toNat) (dd_nodup ns) fun x hx => mem_ri.mpr (by have := h x ((dd_mem ns x).mp hx); omega)
  rw [ri_len] at this
  exact this
theorem found_len (w : Wb) (p : Int) (cs : List (List Int)) : (foundP w p cs).length = cs.length * (twL w p).length := by
  unfold foundP
  rw [fold_app_eq, List.nil_append]
  induction cs with
  | nil => simp
  | cons c cs ih => rw [List.flatMap_cons, List.length_append, ih, List.length_map, List.length_cons, Nat.add_mul]; omega
theorem ord_ge {w : Wb} : ∀ (ps : List Int) (a : Int), 1 ≤ a → a ≤ ps.foldl (fun a p => a * (1 + ((twB w p).length : Int))) a ∧ ∀ q ∈ ps, 1 + ((twB w q).length : Int) ≤ ps.foldl (fun a p => a * (1 + ((twB w p).length : Int))) a
  | [], a, h => ⟨Int.le_refl _, fun _ h => by cases h⟩
  | p :: ps, a, h => by
    have hp : 1 ≤ 1 + ((twB w p).length : Int) := by omega
    have h1 : a ≤ a * (1 + ((twB w p).length : Int)) := by
      have z := Int.mul_nonneg (show 0 ≤ a by omega) (show 0 ≤ ((twB w p).length : Int) by omega)
      rw [Int.mul_add, Int.mul_one]; omega
    have h2 : 1 + ((twB w p).length : Int) ≤ a * (1 + ((twB w p).length : Int)) := by
      have z := Int.mul_le_mul_of_nonneg_right h (show 0 ≤ 1 + ((twB w p).length : Int) by omega)
      rw [Int.one_mul] at z; exact z
    obtain ⟨i1, i2⟩ := ord_ge (w := w) ps (a * (1 + ((twB w p).length : Int))) (by omega)
    rw [List.foldl_cons]
    refine ⟨Int.le_trans h1 i1, fun q hq => ?_⟩
    rcases List.mem_cons.mp hq with rfl | hq
    · exact Int.le_trans h2 i1
    · exact i2 q hq
theorem twL_le {w : Wb} (g : GoodW w) {p : Int} (hp : 0 ≤ p ∧ p < w.1) : ((twL w p).length : Int) ≤ ordN w (ri 0 w.1.toNat) := by
  have hpm : p ∈ twL w p := twL_mem.mpr ⟨hp, .inl rfl⟩
  obtain ⟨m1, m2⟩ := fmax_ge (twL w p) (-1)
  have hq : (twL w p).foldl max (-1) ∈ twL w p := by
    rcases fmax_mem (twL w p) (-1) with h | h
    · have := m2 p hpm; omega
    · exact h
  generalize (twL w p).foldl max (-1) = q at m2 hq
  obtain ⟨q1, q2⟩ := twL_mem.mp hq
  have sub := len_le_of_sub (l := twL w p) (m := q :: twB w q) ((ri_nodup _ _).filter _) fun o ho => by
    obtain ⟨o1, o2⟩ := twL_mem.mp ho
    have := m2 o ho
    by_cases e : o = q
    · rw [e]; exact List.mem_cons_self
    · refine List.mem_cons_of_mem _ (List.mem_filter.mpr ⟨mem_ri.mpr (by omega), ?_⟩)
      rcases o2 with rfl | o2
      · rcases q2 with rfl | q2
        · exact absurd rfl e
        · exact twin_symm g q2
      · rcases q2 with rfl | q2
        · exact o2
        · exact twin_trans g e o2 (twin_symm g q2)
  rw [List.length_cons] at sub
  have := (ord_ge (w := w) (ri 0 w.1.toNat) 1 (Int.le_refl _)).2 q (mem_ri.mpr (by omega))
  unfold ordN
  omega
theorem found_few {w : Wb} (g : GoodW w) (h5 : w.1 ≤ 5) {top p : Int} (ht : top ≤ 6) (hp : 0 ≤ p ∧ p < w.1) : (foundP w p (fromN w top)).length ≤ 2520 := by
  have c := count_is g top
  have a := all_2520 g h5 ht
  have l := twL_le g hp
  have m : ((fromN w top).length : Int) * ((twL w p).length : Int) ≤ ((fromN w top).length : Int) * ordN w (ri 0 w.1.toNat) := Int.mul_le_mul_of_nonneg_left l (by omega)
  rw [c] at m
  rw [found_len]
  have e : (((fromN w top).length * (twL w p).length : Nat) : Int) = ((fromN w top).length : Int) * ((twL w p).length : Int) := Int.natCast_mul _ _
  omega
/-! ### there are an even number of them -/
theorem all_even {w : Wb} (g : GoodW w) (h : w.2 ≠ []) : (allN w (topW w)).length % 2 = 0 := by
  cases hw : w.2 with
  | nil => exact absurd hw h
  | cons q ls =>
    have hq : q ∈ w.2 := by rw [hw]; exact List.mem_cons_self
    have lq := g.line q hq
    have sp := filter_split (fun _ => true) (fun c : List Int => decide (at0 c q.1 < at0 c q.2)) (allN w (topW w))
    rw [List.filter_eq_self.mpr (fun _ _ => rfl)] at sp
    have fl : ∀ c, c ∈ allN w (topW w) → flipN w c ∈ allN w (topW w) ∧ at0 (flipN w c) q.1 = topW w - at0 c q.1 ∧ at0 (flipN w c) q.2 = topW w - at0 c q.2 ∧ at0 c q.1 ≠ at0 c q.2 := fun c hc => by
      have v := (all_mem g).mp hc
      have hl := v.fit.len
      exact ⟨(all_mem g).mpr (flip_val g v), at0_flip (by omega) (by omega), at0_flip (by omega) (by omega), fun e => by have := at0_inj v.fit.nd (by omega) (by omega) e; omega⟩
    have inj : ∀ x y : List Int, flipN w x = flipN w y → x = y := fun x y e => by rw [← flip_flip w x, e, flip_flip]
    have e : ((allN w (topW w)).filter fun c => true && decide (at0 c q.1 < at0 c q.2)).length = ((allN w (topW w)).filter fun c => true && !decide (at0 c q.1 < at0 c q.2)).length := by
      refine Nat.le_antisymm (len_le_map (flipN w) ((all_nd w _).filter _) (fun c hc => ?_) fun x _ y _ => inj x y) (len_le_map (flipN w) ((all_nd w _).filter _) (fun c hc => ?_) fun x _ y _ => inj x y)
      · obtain ⟨h1, h2⟩ := List.mem_filter.mp hc
        obtain ⟨a1, a2, a3, a4⟩ := fl c h1
        have h2 : at0 c q.1 < at0 c q.2 := by simpa using h2
        refine List.mem_filter.mpr ⟨a1, ?_⟩
        rw [a2, a3, decide_eq_false (by omega)]; rfl
      · obtain ⟨h1, h2⟩ := List.mem_filter.mp hc
        obtain ⟨a1, a2, a3, a4⟩ := fl c h1
        have h2 : ¬ at0 c q.1 < at0 c q.2 := by simpa using h2
        refine List.mem_filter.mpr ⟨a1, ?_⟩
        rw [a2, a3, decide_eq_true (by omega)]; rfl
    omega
end U
/-! Ren: a web with its places renamed. -/
namespace U
open PySem L2 DL
/-- the place with a name -/
def ixOf (names : List Int) (j : Int) : Int := ((names.idxOf j : Nat) : Int)
structure Nam (n : Int) (names : List Int) : Prop where
  lo : 1 ≤ n
  len : (names.length : Int) = n
  rg : ∀ x ∈ names, 0 ≤ x ∧ x < n
  nd : names.Nodup
theorem nam_of {n : Int} {names : List Int} (h : 1 ≤ n) (f : FitsN (n, []) (n - 1) names) : Nam n names := ⟨h, f.len, fun x hx => by have := f.rg x hx; omega, f.nd⟩
section
variable {n : Int} {names : List Int}
theorem Nam.all (N : Nam n names) {j : Int} (h0 : 0 ≤ j) (h1 : j < n) : j ∈ names := by
  have p := perm_of_sub N.nd (m := ri 0 n.toNat) (fun x hx => mem_ri.mpr (by have := N.rg x hx; omega)) (by rw [ri_len]; have := N.len; omega)
  exact p.mem_iff.mpr (mem_ri.mpr (by omega))
theorem Nam.rn (N : Nam n names) : Rn n (at0 names) where
  to := fun i h0 h1 => N.rg _ (at0_mem h0 (by have := N.len; omega))
  inj := fun i j h0 h1 h2 h3 e => at0_inj N.nd (by have := N.len; omega) (by have := N.len; omega) e
theorem ix_lt (N : Nam n names) {j : Int} (h0 : 0 ≤ j) (h1 : j < n) : 0 ≤ ixOf names j ∧ ixOf names j < n := by
  have := List.idxOf_lt_length_of_mem (N.all h0 h1)
  have := N.len
  unfold ixOf
  omega
theorem at_ix (N : Nam n names) {j : Int} (h0 : 0 ≤ j) (h1 : j < n) : at0 names (ixOf names j) = j := by
  have hl := List.idxOf_lt_length_of_mem (N.all h0 h1)
  unfold at0 ixOf
  rw [List.getD_eq_getElem?_getD, List.getElem?_eq_getElem (by omega)]
  simp
theorem ix_at (N : Nam n names) {i : Int} (h0 : 0 ≤ i) (h1 : i < n) : ixOf names (at0 names i) = i := by
  have t := N.rn.to i h0 h1
  have l := ix_lt N t.1 t.2
  exact N.rn.inj _ _ l.1 l.2 h0 h1 (at_ix N t.1 t.2)
theorem Nam.rni (N : Nam n names) : Rn n (ixOf names) where
  to := fun i h0 h1 => ix_lt N h0 h1
  inj := fun i j h0 h1 h2 h3 e => by rw [← at_ix N h0 h1, e, at_ix N h2 h3]
end
/-- the other web -/
def renW (names : List Int) (w : Wb) : Wb := (w.1, sortP (w.2.map (lineR (at0 names))))
section
variable {w : Wb} {names : List Int}
theorem ren_len : (renW names w).2.length = w.2.length := by
  show (sortP _).length = _
  rw [(sortP_perm _).length_eq, List.length_map]
theorem ren_top : topW (renW names w) = topW w := by unfold topW; rw [ren_len]
theorem line_rg (g : GoodW w) (N : Nam w.1 names) {q : Int × Int} (hq : q ∈ w.2) : 0 ≤ (lineR (at0 names) q).1 ∧ (lineR (at0 names) q).1 < (lineR (at0 names) q).2 ∧ (lineR (at0 names) q).2 < w.1 := by
  have l := g.line q hq
  have a := N.rn.to q.1 (by omega) (by omega)
  have b := N.rn.to q.2 (by omega) (by omega)
  have ne : at0 names q.1 ≠ at0 names q.2 := fun e => by have := N.rn.inj _ _ (by omega) (by omega) (by omega) (by omega) e; omega
  unfold lineR ordP
  split <;> simp <;> omega
theorem ren_good (g : GoodW w) (N : Nam w.1 names) : GoodW (renW names w) where
  lo := g.lo
  hi := g.hi
  line := fun q hq => by
    have hq := (sortP_perm _).mem_iff.mp hq
    obtain ⟨r, hr, rfl⟩ := List.mem_map.mp hq
    exact line_rg g N hr
  asc := by
    refine ascB_of _ ?_
    have nd : (w.2.map (lineR (at0 names))).Nodup := nodup_map (lines_nodup g) (lineR_inj g N.rn)
    have nd2 := (sortP_perm (w.2.map (lineR (at0 names)))).nodup_iff.mpr nd
    have srt := sortP_sorted (w.2.map (lineR (at0 names)))
    show (sortP (w.2.map (lineR (at0 names)))).Pairwise _
    refine (List.Pairwise.and srt nd2).imp fun {a b} h => ?_
    obtain ⟨h1, h2⟩ := h
    rw [ltPr_iff]
    rcases h1 with z | ⟨z, y⟩
    · exact .inl z
    · refine .inr ⟨z, ?_⟩
      have : a.2 ≠ b.2 := fun e => h2 (Prod.ext z e)
      omega
theorem ren_perm : (renW names w).2.Perm (w.2.map (lineR (at0 names))) := sortP_perm _
theorem line_back (g : GoodW w) (N : Nam w.1 names) {q : Int × Int} (hq : q ∈ w.2) : lineR (ixOf names) (lineR (at0 names) q) = q := by
  have l := g.line q hq
  have a := ix_at N (i := q.1) (by omega) (by omega)
  have b := ix_at N (i := q.2) (by omega) (by omega)
  unfold lineR ordP
  split <;> simp only [a, b] <;> split <;> first | rfl | (exact Prod.ext (by simp; omega) (by simp; omega))
theorem ren_perm' (g : GoodW w) (N : Nam w.1 names) : w.2.Perm ((renW names w).2.map (lineR (ixOf names))) := by
  refine List.Perm.symm (((ren_perm (w := w) (names := names)).map (lineR (ixOf names))).trans ?_)
  rw [List.map_map]
  refine List.Perm.of_eq ?_
  conv => rhs; rw [← List.map_id w.2]
  exact List.map_congr_left fun q hq => line_back g N hq
theorem val_to (g : GoodW w) (N : Nam w.1 names) {t : Int} {c : List Int} (v : Val (renW names w) t c) : Val w t (pull w.1.toNat (at0 names) c) := val_pull (w := w) (o := renW names w) g N.rn rfl ren_perm v
theorem val_from (g : GoodW w) (N : Nam w.1 names) {t : Int} {c : List Int} (v : Val w t c) : Val (renW names w) t (pull w.1.toNat (ixOf names) c) :=
  val_pull (w := renW names w) (o := w) (ren_good g N) N.rni rfl (ren_perm' g N) v
theorem pull_inj {n : Nat} {f h : Int → Int} (hf : ∀ i, 0 ≤ i → i < (n : Int) → 0 ≤ h i ∧ h i < (n : Int) ∧ f (h i) = i) {c d : List Int} (hc : c.length = n) (hd : d.length = n) (e : pull n f c = pull n f d) : c = d := by
  refine List.ext_getElem? fun i => ?_
  by_cases hi : i < n
  · obtain ⟨a, b, k⟩ := hf (i : Int) (by omega) (by omega)
    have z : at0 (pull n f c) (h (i : Int)) = at0 (pull n f d) (h (i : Int)) := by rw [e]
    rw [at0_pull a b, at0_pull a b, k] at z
    unfold at0 at z
    rw [List.getD_eq_getElem?_getD, List.getD_eq_getElem?_getD, List.getElem?_eq_getElem (by omega), List.getElem?_eq_getElem (by omega)] at z
    rw [List.getElem?_eq_getElem (by omega), List.getElem?_eq_getElem (by omega)]
    simpa using z
  · rw [List.getElem?_eq_none (by omega), List.getElem?_eq_none (by omega)]
theorem ren_count (g : GoodW w) (N : Nam w.1 names) (t : Int) : (allN (renW names w) t).length = (allN w t).length := by
  have g' := ren_good g N
  refine Nat.le_antisymm (len_le_map (pull w.1.toNat (at0 names)) (all_nd _ _) (fun c hc => (all_mem g).mpr (val_to g N ((all_mem g').mp hc))) fun x hx y hy e => ?_) (len_le_map (pull w.1.toNat (ixOf names)) (all_nd _ _) (fun c hc => (all_mem g').mpr (val_from g N ((all_mem g).mp hc))) fun x hx y hy e => ?_)
  · have lx := ((all_mem g').mp hx).fit.len
    have ly := ((all_mem g').mp hy).fit.len
    have : (renW names w).1 = w.1 := rfl
    exact pull_inj (h := ixOf names) (fun i h0 h1 => by have := ix_lt N (j := i) h0 (by omega); exact ⟨this.1, by omega, at_ix N h0 (by omega)⟩) (by omega) (by omega) e
  · have lx := ((all_mem g).mp hx).fit.len
    have ly := ((all_mem g).mp hy).fit.len
    exact pull_inj (h := at0 names) (fun i h0 h1 => by have := N.rn.to i h0 (by omega); exact ⟨this.1, by omega, ix_at N h0 (by omega)⟩) (by omega) (by omega) e
end
end U
/-! Fz: a tuple of ints that the program made and whose object is known: t.index(k). -/
namespace DL
open PySem PySem.Spec PyProof.Rows L2 U
open Evl (Ex)
/-- the name holds a tuple of these ints, the object has no dict -/
def kFz (ns : List Int) : Kn := ⟨fun o B => ∃ p ob, o = some (V.ref p) ∧ B p = some (.frz ob (.tup (ns.map V.int))) ∧ ob.dict = none, fun e ⟨p, ob, h1, h2, h3⟩ => ⟨p, ob, h1, e _ _ h2, h3⟩⟩
/-! ### tuple(list), the object known -/
def rTupFz (K : PySem.W.Frag) : List V → Hp → VK → Prop := fun xs H Q => ∃ p ys, xs = [V.ref p] ∧ SqL K H p ys ∧ ∀ l ob, H l = none → ob.dict = none → Q (.ref l) (upd H l (.frz ob (.tup ys)))
theorem cr_tupFz {X : Cx} : CallR X (.type "tuple") (rTupFz X.K) := by
  intro pins s σ H xs us Q I r h
  obtain ⟨p, ys, rfl, hq, q⟩ := h
  rw [Vals.ref1 r]
  obtain ⟨its, r', pl, hz⟩ := I.list hq
  have hlen := r'.length
  refine call_tuple_list pl.isList (fun h' kp => ?_) (by simp only [List.size_toArray] <;> omega)
  have I1 : Inv X pins σ H { s with heap := h' } := I.kept (t' := s.toks) kp
  have hfr := I1.hok.fresh (Nat.le_refl _)
  have I2 : Inv X pins σ (upd H h'.objs.size (.frz { cls := .type "tuple", data := .seq its.toArray } (.tup ys))) { s with heap := h'.push { cls := .type "tuple", data := .seq its.toArray } } :=
    I1.laid (t' := s.toks) (fun b o e => Heap.get?_push_of_some _ e) (Nat.le_refl _) ⟨Heap.get?_push_size _ rfl, hz, its, r', IsTup.new _ _⟩
  exact ⟨.ref h'.objs.size, _, I2, rfl, q _ _ hfr rfl⟩
theorem tupFzK {X : Cx} {K : PySem.W.Frag} (h : X.K = K) : CallR X (.type "tuple") (rTupFz K) := by subst h; exact cr_tupFz
/-! ### t.index(k) -/
def rTIx (K : PySem.W.Frag) : V → List V → Hp → VK → Prop := fun x xs H Q => ∃ (a : Addr) (ns : List Int) (k : Int), x = V.ref a ∧ xs = [V.int k] ∧ SqT K H a (ns.map V.int) ∧ k ∈ ns ∧ Q (.int (ns.idxOf k : Nat)) H
theorem mt_tix {X : Cx} : MtR X "tuple.index" (rTIx X.K) := by
  intro pins s σ H x xs v us Q I rx rxs h
  obtain ⟨a, ns, k, rfl, rfl, hs, hk, q⟩ := h
  cases rx
  cases rxs with
  | cons ry rt =>
    cases rt
    obtain ⟨t, rfl⟩ := ry
    obtain ⟨its, rv, hl, _⟩ := I.tuple hs
    have hTu : s.heap.IsTuple a its.toArray := by obtain ⟨o, ho, hc, n, hd⟩ := hl; exact ⟨o, ho, hc, n, hd⟩
    exact PySem.SeqAt.tuple_index_ints hTu rv.ints hk ⟨.int _, H, I.tok _, ⟨_, rfl⟩, q⟩
def tTIx (K : PySem.W.Frag) (to : TE) (t : TA) : TE := fun σ H Q => to σ H fun x H1 => (∃ a ob xs, x = V.ref a ∧ H1 a = some (.frz ob (.tup xs)) ∧ ob.dict = none) ∧ t σ H1 fun xs H2 => rTIx K x xs H2 Q
theorem tixK {X : Cx} {K : PySem.W.Frag} {o e : Expr} {es : List Expr} {to : TE} {t : TA} {apos cpos : Pos} (h : X.K = K) (ho : PE X o to) (ha : PA X (e :: es) t)
    (hbase : attributeBase o "index" X.env (eval o X.env) = eval o X.env := by rfl)
    (hfew : ((backTo cpos (starEach (e :: es) X.env)).all (fun x => !x.1) && (backToKw cpos (keywordEach [] X.env)).all (fun x => x.1.isSome) && decide ((e :: es).length + ([] : List Keyword).length + (if ([] : List Keyword).isEmpty then 0 else 1) < 30)) = true := by rfl)
    (hline : (apos.endLine == cpos.line) = true := by rfl) (hs : starEach (e :: es) X.env = (false, eval e X.env) :: starEach es X.env := by rfl) (hplain : (backTo cpos (starEach es X.env)).any (·.1) = false := by rfl) :
    PE X (.Call (.Attribute o "index" apos) (e :: es) [] cpos) (tTIx K to t) := by
  subst h
  refine ⟨fun pins s σ H Q I h => ?_⟩
  refine wpAny_Call_method_late hbase hfew hline rfl (thn (ho.run pins s σ H _ I h) fun v s1 ⟨x, H1, I1, r1, ty, q1⟩ => ?_)
  obtain ⟨a, ob, xs, rfl, hfz, hdn⟩ := ty
  cases r1
  obtain ⟨g1, _, its, _, o2, g2, gc, gn, gd⟩ := (show ObjOk X.prog X.w H1 s1.heap a (.frz ob (.tup xs)) from I1.hok a _ hfz)
  have ee : o2 = ob := by rw [g1] at g2; exact (Option.some.inj g2).symm
  subst ee
  refine ⟨"tuple", "tuple.index", PySem.F.plainAttrs_tuple, PySem.F.slot_tuple_index, PySem.F.type_tuple_index, ⟨_, g1, gc⟩, fun b hb => by cases hb; exact ⟨_, g1, hdn⟩, ?_⟩
  have hA := ha.run cpos pins s1 σ H1 _ I1 q1
  rw [hs] at hA ⊢
  refine Calls.callWith_builtin (by show (false || (backTo cpos (starEach es X.env)).any (·.1)) = false; rw [hplain] <;> rfl) (Calls.evalArgs_plain ?_)
  exact thn hA fun us s2 ⟨vs, H2, I2, r2, q2⟩ => mt_tix pins s2 σ H2 (.ref a) vs (.ref a) us Q I2 rfl r2 q2
section
variable {T : TL} {K : PySem.W.Frag} {tk tb : TE} {ρ ρ1 : List Sl} {ns : List Int} {i : Nat} {k : Int}
theorem sqT_fz {B H : Hp} {p : Addr} {ob : Obj} {xs : List V} (e : Ex B H) (h : B p = some (.frz ob (.tup xs))) : SqT K H p xs := .inl (.inr ⟨ob, e _ _ h⟩)
theorem Env.fz {F : Hp} {W : Addr → Prop} {B H : Hp} {σ : Sigma} (E : Env T F W B H σ ρ) (h : ρ[i]? = some (.is (kFz ns))) : ∃ p ob, σ[i]? = some (some (.ref p)) ∧ B p = some (.frz ob (.tup (ns.map V.int))) ∧ ob.dict = none := by
  obtain ⟨o, h1, p, ob, rfl, h2, h3⟩ := E.sl i _ h
  exact ⟨p, ob, h1, h2, h3⟩
theorem ee_tix (h : ρ[i]? = some (.is (kFz ns))) (h2 : EE T tk ρ (.int k) ρ1) (hk : k ∈ ns) : EE T (tTIx K (tVar i) (tCons tk tNil)) ρ (.int (ns.idxOf k : Nat)) ρ1 := fun F W B H σ Q E kk => by
  obtain ⟨p, ob, h1, hb, hd⟩ := E.fz h
  refine ⟨_, h1, ⟨p, ob, _, rfl, E.bh _ _ hb, hd⟩, h2 F W B H σ _ E fun u B2 H2 e2 E2 q2 => ⟨p, ns, k, rfl, by rw [q2.inv_int], sqT_fz E2.bh (e2 _ _ hb), hk, kk _ B2 H2 e2 E2 (.int _)⟩⟩
theorem ee_ixFz (h : ρ[i]? = some (.is (kFz ns))) (h2 : EE T tb ρ (.int k) ρ1) (h0 : 0 ≤ k) (hl : k < ns.length) : EE T (tOp (rIxT K) (tVar i) tb) ρ (.int (at0 ns k)) ρ1 := fun F W B H σ Q E kk => by
  obtain ⟨p, ob, h1, hb, hd⟩ := E.fz h
  refine ⟨_, h1, h2 F W B H σ _ E fun u B2 H2 e2 E2 q2 => ⟨p, ns.map V.int, k, .int (at0 ns k), rfl, q2.inv_int, sqT_fz E2.bh (e2 _ _ hb), ?_, kk _ B2 H2 e2 E2 (.int _)⟩⟩
  obtain ⟨j, rfl⟩ := Int.eq_ofNat_of_zero_le h0
  refine L2.atI_nat ?_
  have hj : j < ns.length := by omega
  unfold at0
  rw [List.getElem?_map, List.getElem?_eq_getElem hj, List.getD_eq_getElem?_getD, List.getElem?_eq_getElem (by omega)]
  rfl
end
/-! ### a def that gives such a tuple -/
def spOF (R : List PyData → List PyData → List Int → List PyData → Prop) : Sp := fun vs H Q _ => ∃ B p us xs cs ds ns cs', vs = .ref p :: us ∧ Ex B H ∧ (∀ a ps, B a ≠ some (.tbl ps)) ∧ B p = none ∧ H p = some (.lst xs) ∧ DtAll B xs cs ∧ DtAll B us ds ∧ R cs ds ns cs' ∧
  ∀ l ob B' H' ys, GrowO p B H B' H' → H' p = some (.lst ys) → DtAll B' ys cs' → B' l = some (.frz ob (.tup (ns.map V.int))) → ob.dict = none → Q (.ref l) H'
theorem Env.setK {T : TL} {F : Hp} {W : Addr → Prop} {B H : Hp} {σ : Sigma} {ρ : List Sl} {i : Nat} {v : V} {k : Kn} (E : Env T F W B H σ ρ) (h : k.ok (some v) B) : Env T F W B H (σ.set i (some v)) (ρ.set i (.is k)) where
  fh := E.fh
  bh := E.bh
  wf := E.wf
  wb := E.wb
  tb := E.tb
  ft := E.ft
  bt := E.bt
  ln := by rw [List.length_set, List.length_set]; exact E.ln
  sl := fun j s hs => by
    by_cases hj : i = j
    · subst hj
      by_cases hl : i < ρ.length
      · rw [List.getElem?_set_self hl] at hs
        cases hs
        exact ⟨some v, List.getElem?_set_self (by rw [E.ln]; exact hl), h⟩
      · rw [List.getElem?_eq_none (by simpa using hl)] at hs; cases hs
    · rw [List.getElem?_set_ne hj] at hs ⊢
      exact E.sl j s hs
  ne := fun a b p q q' ds es hab ha hb => by
    have na : i ≠ a := fun z => by
      subst z
      by_cases hl : i < ρ.length
      · rw [List.getElem?_set_self hl] at ha; cases ha
      · rw [List.getElem?_eq_none (by simpa using hl)] at ha; cases ha
    have nb : i ≠ b := fun z => by
      subst z
      by_cases hl : i < ρ.length
      · rw [List.getElem?_set_self hl] at hb; cases hb
      · rw [List.getElem?_eq_none (by simpa using hl)] at hb; cases hb
    rw [List.getElem?_set_ne na] at ha
    rw [List.getElem?_set_ne nb] at hb
    rw [List.getElem?_set_ne na, List.getElem?_set_ne nb]
    exact E.ne a b p q q' ds es hab ha hb
theorem ss_setFz {T : TL} {X E : XK} {R : List PyData → List PyData → List Int → List PyData → Prop} {ρ ρ1 : List Sl} {ta : TA} {cs0 cs cs' ds : List PyData} {ns : List Int} {i j : Nat} {qa qb : Option Addr} (h0 : ρ[i]? = some (.own qa cs0)) (h : EA T ta ρ ds ρ1) (h1 : ρ1[i]? = some (.own qb cs)) (hR : R cs ds ns cs') :
    SS T X (tAsg (tCall (spOF R) [] E (tCons (tVar i) ta)) (gName j)) ρ (.nx ((ρ1.set i (.own qb cs')).set j (.is (kFz ns)))) := fun F W D B H σ Ev k => by
  obtain ⟨p, xs, e, _⟩ := Ev.own h0
  refine ⟨_, e, h F W B H σ _ Ev fun us B1 H1 e1 E1 q1 => ?_⟩
  obtain ⟨p', ys, f1, f2, f3, f4, f5⟩ := E1.own h1
  rw [e] at f1
  cases f1
  show spOF R ((V.ref p :: us) ++ []) H1 _ E
  rw [List.append_nil]
  refine ⟨B1, p, us, ys, cs, ds, ns, cs', rfl, E1.bh, E1.bt, f2, f4, f5, q1, hR, fun l ob B' H' zs g hz q hb hd => ?_⟩
  exact k _ B' H' (e1.trans g.bb) ((E1.growO h1 e g hz q).setK ⟨l, ob, rfl, hb, hd⟩)
/-- the statement ends with the return of such a tuple; the own list of the first argument is cs' then -/
def SF (T : TL) (X : XK) (t : TS) (ρ : List Sl) (p : Addr) (cs' : List PyData) (ns : List Int) : Prop := ∀ F W D B H σ, Env T F W B H σ ρ →
  (∀ l ob σ' ρ' B' H', Ex B B' → Env T F W B' H' σ' ρ' → ρ'[0]? = some (.own (some p) cs') → B' l = some (.frz ob (.tup (ns.map V.int))) → ob.dict = none → D.rt (.ref l) H') → t D σ H
section
variable {T : TL} {X : XK} {t u : TS} {ρ ρ1 : List Sl} {p : Addr} {cs' : List PyData} {ns : List Int} {K : PySem.W.Frag} {i : Nat}
theorem sf_seq (h : SS T X t ρ (.nx ρ1)) (h2 : SF T X u ρ1 p cs' ns) : SF T X (tSeq t u) ρ p cs' ns := fun F W D B H σ E k =>
  h F W { D with nx := u D } B H σ E fun σ' B' H' e' E' => h2 F W D B' H' σ' E' fun l ob σ2 ρ2 B2 H2 e2 => k l ob σ2 ρ2 B2 H2 (e'.trans e2)
theorem sf_give {qa : Option Addr} {ds : List PyData} (hi : ρ[i]? = some (.own qa ds)) (h : SF T X t (ρ.set i (.dat (.list ds))) p cs' ns) : SF T X t ρ p cs' ns := fun F W D B H σ E k => by
  obtain ⟨B', e, E'⟩ := E.give hi
  exact h F W D B' H σ E' fun l ob σ2 ρ2 B2 H2 e2 => k l ob σ2 ρ2 B2 H2 (e.trans e2)
theorem sf_ret (h0 : ρ[0]? = some (.own (some p) cs')) (hi : ρ[i]? = some (.dat (eL ns))) : SF T X (tRet (tCB (rTupFz K) (tCons (tVar i) tNil))) ρ p cs' ns := fun F W D B H σ E k => by
  obtain ⟨v, h1, h2⟩ := E.dat hi
  obtain ⟨a, xs, rfl, hb, q⟩ := h2.inv_lst
  have ex := q.ints
  subst ex
  refine ⟨_, h1, a, _, rfl, SqL.of (E.bh _ _ hb), fun l ob hl hd => ?_⟩
  have g := Grow.new (o := .frz ob (.tup (ns.map V.int))) E.bh hl (fun ps z => by cases z)
  exact k l ob σ ρ _ _ g.bb (E.grow g) h0 upd_same hd
end
theorem calOF {P : Program} {w : World} {K : PySem.W.Frag} {mg : Str → Option Value} {base : Heap} {x : Str} {st : Stmt} {N ps : List Str} {k : Nat} {R : List PyData → List PyData → List Int → List PyData → Prop} (F : Fn K mg x st) (S : FnScope N ps (defScope st)) (hbind : BindsAs x st ps) (hl : ∀ cs ds r cs', R cs ds r cs' → ds.length + 1 = ps.length)
    (hb : ∀ (f : Addr) (cdv : Value) (A : Around) (outer : List PySem.Env) (s : Shared) (H : Hp) (E : XK), Room k (A.deeper (envOfC x (defScope st) s.heap.objs.size f cdv)) →
      ∃ t, PSs (cxOf (L2N.CX P w) P w K mg base N x (defScope st) f cdv A outer s H E).nox (defBody st) t ∧ ∀ p cs ds ns cs', R cs ds ns cs' → SF [] E t (slotsO p N.length cs ds) p cs' ns) :
    Cal P w K mg base (k + 1) x ps (spOF R) := by
  obtain ⟨f, fd, Fu, hm⟩ := F.ex
  refine ⟨f, fd, Fu.okN S (fun vs H Q E h => ?_) (fun cdv A outer s H vs Q E hr h => ?_), hm, Fu.kp, Fu.binds hbind⟩
  · obtain ⟨B, p, us, xs, cs, ds, r, cs', rfl, _, _, _, _, _, q, hR, _⟩ := h
    rw [List.length_cons, q.length]; exact hl cs ds r cs' hR
  · obtain ⟨t, ht, hs⟩ := hb f cdv A outer s H E hr
    refine ⟨t, ht.nox, ?_⟩
    obtain ⟨B, p, us, xs, cs, ds, ns, cs', rfl, hB, hbt, hp, hH, qx, q, hR, k⟩ := h
    refine hs p cs ds ns cs' hR _ _ _ B H _ (startO_env hB hbt hp hH qx q) fun l ob σ' ρ' B' H' e E' h0 hf hd => ?_
    obtain ⟨p', ys, f1, f2, f3, f4, f5⟩ := E'.own h0
    have f6 := E'.ownAt h0
    rw [f1] at f6
    cases f6
    exact k l ob B' H' ys (endO_grow hB e E' f2) f4 f5 hf hd
end DL
namespace U
open PySem L2 PyProof.Rows DL
open Evl (Ex)
open LamX (lamS_by)
section
variable {P : Program} {w : World} {K : PySem.W.Frag} {mg : Str → Option Value} {base : Heap} {xa : Str → Addr}
abbrev s_law_any_numbers : Stmt := topS 50
theorem sc_law_any_numbers : FnScope ["dice", "many", "top", "left", "found", "turn", "number", "one"] ["dice", "many", "top"] (defScope s_law_any_numbers) := ⟨rfl, rfl, rfl, by decide +kernel, rfl, by decide +kernel, by decide +kernel⟩
theorem bd_law_any_numbers : BindsAs "_law_any_numbers" s_law_any_numbers ["dice", "many", "top"] := fun _ _ _ _ _ _ us hl => match us, hl with | [_, _, _], _ => rfl

def R_law_any_numbers : List PyData → List PyData → List Int → List PyData → Prop := fun cs ds r cs' => ∃ (D : Dc) (many top : Int), cs = eD D ∧ ds = [.int many, .int top] ∧ 0 ≤ many ∧ many ≤ 100 ∧ 0 ≤ top ∧ top ≤ 100 ∧ r = (anyNums D many top).1.2 ∧ cs' = eD (anyNums D many top).2
theorem ok_law_any_numbers (F : Fn K mg "_law_any_numbers" s_law_any_numbers) (B : Bt mg) (c__law_roll : Cal P w K mg base 2 "_law_roll" ["dice", "many"] (spO R_law_roll)) : Cal P w K mg base 3 "_law_any_numbers" ["dice", "many", "top"] (spOF R_law_any_numbers) :=
  calOF F sc_law_any_numbers bd_law_any_numbers (fun cs ds r cs' ⟨_, _, _, _, e, _⟩ => by rw [e]; rfl) fun f cdv A outer s H E hr => by
  refine ⟨_, (pss_cons (ps_par (i := 3) (j := 4) (by rfl) sc_law_any_numbers.nd rfl rfl (by decide) rfl rfl (pa_cons (pe_listRg rfl (by rfl) B.list (prg_1 (by rfl) B.range (pe_op op_add (pv 2) pe_int))) (pa_cons (pe_lst pa_nil) pa_nil)) (by rfl))
      (pss_cons (ps_for PassesOwn.never rfl (pi_range1 (by rfl) B.range (pa_cons (pe_callB (call_min2 rfl) (by rfl) B.min bb_min (pa_cons (pv 1) (pa_cons (pe_op op_add (pv 2) pe_int) pa_nil))) pa_nil)) (pg_name (i := 5) sc_law_any_numbers.nd rfl (Or.inl rfl)) (pss_cons (ps_set (i := 6) sc_law_any_numbers.nd rfl (Or.inr rfl) (pe_ix (ixL (K := K) rfl) (pv 3) (pe_cal c__law_roll (hr.mono (by decide)) (by rfl) (pa_cons (pv 0) (pa_cons (pe_callB (lenK (K := K) rfl) (by rfl) B.len bb_len (pa_cons (pv 3) pa_nil)) pa_nil))) (fun _ _ => rfl)))
      (pss_cons (ps_setLc (i := 3) (own := [("one", 7)]) (g := (gName 7)) rfl sc_law_any_numbers.nd rfl rfl (sw_true rfl rfl rfl (by decide +kernel)) (piL (K := K) rfl (pv 3)) (blkOk_by (own := [("one", 7)]) (N := ["dice", "many", "top", "left", "found", "turn", "number", "one"]) (sc := defScope s_law_any_numbers) (by decide +kernel)) (fun _ _ _ _ _ => (pg_name (i := 7) sc_law_any_numbers.nd rfl (Or.inl rfl))) (fun _ _ _ _ _ => (pts_one (pt_cmpR op_ne (pv 7) (pv 6) (nomark _)))) (fun _ _ _ _ _ => (pv 7)))
      (pss_one (ps_expr (appK (K := K) rfl (pv 4) (pa_cons (pv 6) pa_nil)))))))
      (pss_one (ps_ret (pe_callTy (tupFzK (K := K) rfl) (by rfl) B.tuple bb_tuple (pa_cons (pv 4) pa_nil)))))), fun p cs ds r cs' ⟨D, many, top, e1, e2, m0, m1, t0, t1, e3, e4⟩ => ?_⟩
  subst e1 e2 e3 e4
  unfold anyNums
  generalize hs0 : (((ri 0 (top + 1).toNat, []), D) : Ns) = s0
  have l0 : s0.1.1.length = (top + 1).toNat := by rw [← hs0]; exact ri_len _ _
  have nd0 : s0.1.1.Nodup := by rw [← hs0]; exact ri_nodup _ _
  have f0 : s0.1.2.length = 0 := by rw [← hs0]; rfl
  refine sf_seq (ss_parL (ds := []) (el_listR1 (n := top + 1) (ee_op (ee_var rfl) ee_int re_add) (by omega)).ee (el_lst ea_nil (by decide))) (sf_seq (ss_forR1i (n := min many (top + 1)) (o := .nx [.own (some p) (eD (numsD (ri 0 (min many (top + 1)).toNat) s0).2), .dat (.int many), .dat (.int top), .dat (eL (numsD (ri 0 (min many (top + 1)).toNat) s0).1.1), .own none ((numsD (ri 0 (min many (top + 1)).toNat) s0).1.2.map PyData.int), .no, .no, .no]) (ea_1 (ee_cb (ea_2 (ee_var rfl) (ee_op (ee_var rfl) ee_int re_add)) rb_min2)) (by omega) ?_) (sf_give (i := 4) rfl (sf_ret (K := K) rfl rfl)))
  have hst : [Sl.own (some p) (eD D), .dat (.int many), .dat (.int top), .dat (.list (rng 0 (top + 1).toNat)), .own none [], .no, .no, .no] = [Sl.own (some p) (eD s0.2), .dat (.int many), .dat (.int top), .dat (eL s0.1.1), .own none (s0.1.2.map PyData.int), .no, .no, .no] := by rw [← hs0, rng_ri]; rfl
  show ForR _ _ [Sl.own (some p) (eD D), .dat (.int many), .dat (.int top), .dat (.list (rng 0 (top + 1).toNat)), .own none [], .no, .no, .no] _
  rw [hst]
  refine forR_pre PyData.int (fun pre => [Sl.own (some p) (eD (numsD pre s0).2), .dat (.int many), .dat (.int top), .dat (eL (numsD pre s0).1.1), .own none ((numsD pre s0).1.2.map PyData.int), .no, .no, .no]) (ri 0 (min many (top + 1)).toNat) fun pr x post e => ?_
  have hlen := congrArg List.length e
  rw [ri_len, List.length_append, List.length_cons] at hlen
  obtain ⟨nd, hl, hfl⟩ := nums_inv pr s0 nd0 (by omega)
  rw [numsD_snoc]
  generalize numsD pr s0 = g at *
  have hR : R_law_roll (eD g.2) [.int ((g.1.1.map PyData.int).length : Nat)] (.ok (.int (rollV g.2 g.1.1.length))) (eD (rollS g.2 g.1.1.length)) := by
    rw [List.length_map]
    exact roll_ok (by omega) (by omega)
  have hv := rollV_lo g.2 (m := (g.1.1.length : Int)) (by omega)
  have hv2 := rollV_hi g.2 (m := (g.1.1.length : Int)) (by omega)
  unfold numStep
  dsimp only
  have hat := at0_ok hv hv2
  generalize at0 g.1.1 (rollV g.2 g.1.1.length) = y at *
  refine ⟨_, eg_name, ss_forget (ss_seq (ss_set (ee_op (ee_var rfl) (ee_callO (i := 0) rfl (ea_1 (ee_cb (ea_1 (ee_var rfl)) rb_lenL)) rfl hR) (re_ixL hat))) (ss_seq (ss_set (EL.ee (el_lcLp (es := (g.1.1.filter fun z => !decide (z = y)).map PyData.int) (ee_var rfl) (lcr_filter PyData.int (fun z => !decide (z = y)) PyData.int g.1.1 fun z _ => lc1 (by intro _ _ h; cases h) (et_test (ee_op (ee_var rfl) (ee_var rfl) re_neI)) (fun _ => ee_var rfl)) (by rw [List.length_map]; have := List.length_filter_le (fun z => !decide (z = y)) g.1.1; omega)))) (ss_app rfl (ee_var rfl) rfl (by rw [List.length_map]; omega)))) ?_⟩
  rw [List.map_append]
  exact .same (.same (.same (.same (.same (.no (.no (.no .nil)))))))

end
end U
namespace U
open PySem L2 PyProof.Rows DL
open Evl (Ex)
open LamX (lamS_by)
section
variable {P : Program} {w : World} {K : PySem.W.Frag} {mg : Str → Option Value} {base : Heap} {xa : Str → Addr}
abbrev s_is_whole : Stmt := topS 8
theorem sc_is_whole : FnScope ["value", "low", "high"] ["value", "low", "high"] (defScope s_is_whole) := ⟨rfl, rfl, rfl, by decide +kernel, rfl, by decide +kernel, by decide +kernel⟩
theorem bd_is_whole : BindsAs "is_whole" s_is_whole ["value", "low", "high"] := fun _ _ _ _ _ _ us hl => match us, hl with | [_, _, _], _ => rfl

def R_is_whole : List PyData → Res → Prop := fun ds r => ∃ d lo hi, ds = [d, .int lo, .int hi] ∧ r = .ok (.bool (wholeB d lo hi))
theorem ok_is_whole (F : Fn K mg "is_whole" s_is_whole) (B : Bt mg) : Cal P w K mg base 1 "is_whole" ["value", "low", "high"] (spP R_is_whole) :=
  calQ F sc_is_whole bd_is_whole (fun ds r ⟨_, _, _, e, _⟩ => by rw [e]; rfl) fun f cdv A outer s H E hr => by
  refine ⟨_, (pss_one (ps_ret (pe_and (pe_callB (isiK (K := K) rfl) (by rfl) B.isinstance bb_isinstance (pa_cons (pv 0) (pa_cons (pe_bltn (v := .ty "int") (by rfl) B.int bb_int rfl) pa_nil))) (pe_and (pe_not (pe_callB (isiK (K := K) rfl) (by rfl) B.isinstance bb_isinstance (pa_cons (pv 0) (pa_cons (pe_bltn (v := .ty "bool") (by rfl) B.bool bb_bool rfl) pa_nil)))) (pe_one (pe_chain op_le op_le (pv 1) (pv 0) (pv 2))))))), fun ds r ⟨d, lo, hi, e1, e2⟩ => ?_⟩
  subst e1 e2
  cases d with
  | int i => exact ⟨_, ss_ret (ee_andT (ee_isInt (d := .int i) (ee_var rfl)) (ee_andT (ee_not (ee_isBool (d := .int i) (ee_var rfl))) (ee_chain (ee_var rfl) (ee_var rfl) re_le fun _ => ⟨_, ee_var rfl, re_le⟩))), rfl⟩
  | bool b => exact ⟨_, ss_ret (ee_andT (ee_isInt (d := .bool b) (ee_var rfl)) (ee_andF (ee_not (ee_isBool (d := .bool b) (ee_var rfl))))), rfl⟩
  | none => exact ⟨_, ss_ret (ee_andF (ee_isInt (d := .none) (ee_var rfl))), rfl⟩
  | str x => exact ⟨_, ss_ret (ee_andF (ee_isInt (d := .str x) (ee_var rfl))), rfl⟩
  | list x => exact ⟨_, ss_ret (ee_andF (ee_isInt (d := .list x) (ee_var rfl))), rfl⟩
  | tuple x => exact ⟨_, ss_ret (ee_andF (ee_isInt (d := .tuple x) (ee_var rfl))), rfl⟩
  | dict x => exact ⟨_, ss_ret (ee_andF (ee_isInt (d := .dict x) (ee_var rfl))), rfl⟩

end
end U
namespace U
open PySem L2 PyProof.Rows DL
open Evl (Ex)
open LamX (lamS_by)
section
variable {P : Program} {w : World} {K : PySem.W.Frag} {mg : Str → Option Value} {base : Heap} {xa : Str → Addr}
abbrev s_is_pair : Stmt := topS 9
theorem sc_is_pair : FnScope ["value", "high", "one"] ["value", "high"] (defScope s_is_pair) := ⟨rfl, rfl, rfl, by decide +kernel, rfl, by decide +kernel, by decide +kernel⟩
theorem bd_is_pair : BindsAs "is_pair" s_is_pair ["value", "high"] := fun _ _ _ _ _ _ us hl => match us, hl with | [_, _], _ => rfl

def R_is_pair : List PyData → Res → Prop := fun ds r => ∃ d hi, ds = [d, .int hi] ∧ r = .ok (.bool (pairB d hi))
theorem pairB_len {xs : List PyData} {hi : Int} (h : xs.length ≠ 2) : pairB (.tuple xs) hi = false := by
  unfold pairB
  split
  · rename_i a b e
    cases e
    exact absurd rfl h
  · rfl
theorem pairB_two (x y : PyData) (hi : Int) : pairB (.tuple [x, y]) hi = true → wholeB x 0 hi = true ∧ wholeB y 0 hi = true := by
  intro h
  unfold pairB at h
  split at h
  · rename_i a b e
    cases e
    simp only [Bool.and_eq_true] at h
    exact ⟨by unfold wholeB; simp only [Bool.and_eq_true]; exact h.1, by unfold wholeB; simp only [Bool.and_eq_true]; exact h.2.1⟩
  · cases h
theorem ok_is_pair (F : Fn K mg "is_pair" s_is_pair) (B : Bt mg) (c_is_whole : Cal P w K mg base 1 "is_whole" ["value", "low", "high"] (spP R_is_whole)) : Cal P w K mg base 2 "is_pair" ["value", "high"] (spP R_is_pair) :=
  calQ F sc_is_pair bd_is_pair (fun ds r ⟨_, _, e, _⟩ => by rw [e]; rfl) fun f cdv A outer s H E hr => by
  refine ⟨_, (pss_cons (ps_if (PW.pt (pw_or (pt_not (pt_val (pe_callB (isiK (K := K) rfl) (by rfl) B.isinstance bb_isinstance (pa_cons (pv 0) (pa_cons (pe_bltn (v := .ty "tuple") (by rfl) B.tuple bb_tuple rfl) pa_nil))))) (pw_or (pt_cmpR op_ne (pe_callB (lenK (K := K) rfl) (by rfl) B.len bb_len (pa_cons (pv 0) pa_nil)) pe_int (nomark _)) (pw_or1 (pt_not (pt_val (pe_callB (allK (K := K) rfl rfl) (by rfl) B.all bb_all (pa_cons (pe_lc (own := [("one", 2)]) (g := (gName 2)) (tt := tYes) rfl sc_is_pair.nd (piT (K := K) rfl (pv 0)) (blkOk_by (own := [("one", 2)]) (N := ["value", "high", "one"]) (sc := defScope s_is_pair) (by decide +kernel)) (fun _ _ _ _ _ => (pg_name (i := 2) sc_is_pair.nd rfl (Or.inl rfl))) (fun _ _ _ _ _ => pts_nil) (fun _ _ _ _ _ => (pe_cal c_is_whole (hr.mono (by decide)) (by rfl) (pa_cons (pv 2) (pa_cons pe_int (pa_cons (pv 1) pa_nil)))))) pa_nil)))))))) (pss_one (ps_ret pe_bl)) pss_nil)
      (pss_one (ps_ret (pe_cmpR op_lt (pe_ix (ixT (K := K) rfl) (pv 0) pe_int (fun _ _ => rfl)) (pe_ix (ixT (K := K) rfl) (pv 0) pe_int (fun _ _ => rfl)) (nomark _))))), fun ds r ⟨d, hi, e1, e2⟩ => ?_⟩
  subst e1 e2
  have nt : isTup d = false → pairB d hi = false := fun h => by cases d <;> first | rfl | cases h
  cases hd : isTup d with
  | false =>
    rw [nt hd]
    exact ⟨_, ss_seqR (ss_if (et_orT (et_not (et_B (ee_is_bool (ee_isTup (ee_var rfl)) hd)))) (fun _ => ss_ret ee_bl) (fun h => by cases h)), rfl⟩
  | true =>
    obtain ⟨xs, rfl⟩ : ∃ xs, d = .tuple xs := by cases d <;> first | exact ⟨_, rfl⟩ | cases hd
    have t1 : ET [] (tNot (tB (tCB (rIsi K) (tCons (tVar 0) (tCons (tC (.ty "tuple")) tNil))))) (slots 3 [.tuple xs, .int hi]) false (slots 3 [.tuple xs, .int hi]) := et_not (et_B (ee_isTup (d := .tuple xs) (ee_var rfl)))
    have t2 : ET [] (tTest (tOp rNe (tCB (rLenQ K) (tCons (tVar 0) tNil)) (tC (.int 2)))) (slots 3 [.tuple xs, .int hi]) (!decide ((xs.length : Int) = 2)) (slots 3 [.tuple xs, .int hi]) := et_test (ee_op (ee_cb (ea_1 (ee_var rfl)) rb_lenT) ee_int re_neI)
    by_cases hl : xs.length = 2
    · have t2' := t2.is (show (!decide ((xs.length : Int) = 2)) = false by rw [hl]; rfl)
      have t3 := et_not (et_B (ee_cb (r := rAll K) (ea_1 (el_lcT (T := []) (K := K) (tl := tVar 0) (ρ := slots 3 [.tuple xs, .int hi]) (g := gName 2) (tt := tYes) (te := tCall (spP R_is_whole) [] E0 (tCons (tVar 2) (tCons (tC (.int 0)) (tCons (tVar 1) tNil)))) (vs := [2])
        (ee_var rfl) (lcr_dbools (fun d => wholeB d 0 hi) xs fun x _ => lc1m (by intro _ _ h; cases h) (ee_call (ea_3 (ee_var rfl) ee_int (ee_var rfl)) ⟨x, 0, hi, rfl, rfl⟩)) (by simp [hl])).ee) rb_all))
      obtain ⟨x, y, rfl⟩ : ∃ x y, xs = [x, y] := by
        match xs, hl with
        | [x, y], _ => exact ⟨x, y, rfl⟩
      have e : (([x, y].map fun d => wholeB d 0 hi).all id) = (wholeB x 0 hi && wholeB y 0 hi) := by simp
      rw [e] at t3
      cases hx : (wholeB x 0 hi && wholeB y 0 hi) with
      | false =>
        rw [hx] at t3
        have : pairB (.tuple [x, y]) hi = false := by
          cases q : pairB (.tuple [x, y]) hi with
          | false => rfl
          | true =>
            have := pairB_two x y hi q
            rw [this.1, this.2] at hx
            cases hx
        rw [this]
        exact ⟨_, ss_seqR (ss_if (et_orF t1 (et_orF t2' t3)) (fun _ => ss_ret ee_bl) (fun h => by cases h)), rfl⟩
      | true =>
        rw [hx] at t3
        rw [Bool.and_eq_true] at hx
        obtain ⟨a, rfl⟩ : ∃ a, x = .int a := by cases x <;> first | exact ⟨_, rfl⟩ | exact absurd hx.1 (by simp [wholeB])
        obtain ⟨b, rfl⟩ : ∃ b, y = .int b := by cases y <;> first | exact ⟨_, rfl⟩ | exact absurd hx.2 (by simp [wholeB])
        refine ⟨_, ss_seq (ss_if (et_orF t1 (et_orF t2' t3)) (fun h => by cases h) (fun _ => ss_next)) (ss_ret (ee_op (ee_op (ee_var rfl) ee_int (re_ixT (d := .int a) rfl)) (ee_op (ee_var rfl) ee_int (re_ixT (d := .int b) rfl)) re_lt)), ?_⟩
        show PyData.bool _ = PyData.bool _
        have h1 := hx.1
        have h2 := hx.2
        unfold wholeB at h1 h2
        simp only [Bool.and_eq_true, decide_eq_true_eq] at h1 h2
        simp [pairB, h1, h2]
    · have t2' := t2.is (show (!decide ((xs.length : Int) = 2)) = true by simp; omega)
      rw [pairB_len hl]
      exact ⟨_, ss_seqR (ss_if (et_orF t1 (et_orT t2')) (fun _ => ss_ret ee_bl) (fun h => by cases h)), rfl⟩

end
end U
namespace U
open PySem L2 PyProof.Rows DL
open Evl (Ex)
open LamX (lamS_by)
section
variable {P : Program} {w : World} {K : PySem.W.Frag} {mg : Str → Option Value} {base : Heap} {xa : Str → Addr}
abbrev s_is_web : Stmt := topS 10
theorem sc_is_web : FnScope ["value", "many", "lines", "one", "at"] ["value"] (defScope s_is_web) := ⟨rfl, rfl, rfl, by decide +kernel, rfl, by decide +kernel, by decide +kernel⟩
theorem bd_is_web : BindsAs "is_web" s_is_web ["value"] := fun _ _ _ _ _ _ us hl => match us, hl with | [_], _ => rfl

def R_is_web : List PyData → Res → Prop := fun ds r => ∃ d, ds = [d] ∧ smallW d ∧ r = .ok (.bool (webB d))
theorem ok_is_web (F : Fn K mg "is_web" s_is_web) (B : Bt mg) (c_is_whole : Cal P w K mg base 1 "is_whole" ["value", "low", "high"] (spP R_is_whole)) (c_is_pair : Cal P w K mg base 2 "is_pair" ["value", "high"] (spP R_is_pair)) : Cal P w K mg base 3 "is_web" ["value"] (spP R_is_web) :=
  calQ F sc_is_web bd_is_web (fun ds r ⟨_, e, _⟩ => by rw [e]; rfl) fun f cdv A outer s H E hr => by
  refine ⟨_, (pss_cons (ps_if (PW.pt (pw_or (pt_not (pt_val (pe_callB (isiK (K := K) rfl) (by rfl) B.isinstance bb_isinstance (pa_cons (pv 0) (pa_cons (pe_bltn (v := .ty "tuple") (by rfl) B.tuple bb_tuple rfl) pa_nil))))) (pw_or (pt_cmpR op_ne (pe_callB (lenK (K := K) rfl) (by rfl) B.len bb_len (pa_cons (pv 0) pa_nil)) pe_int (nomark _)) (pw_or1 (pt_not (pt_val (pe_cal c_is_whole (hr.mono (by decide)) (by rfl) (pa_cons (pe_ix (ixT (K := K) rfl) (pv 0) pe_int (fun _ _ => rfl)) (pa_cons pe_int (pa_cons pe_int pa_nil)))))))))) (pss_one (ps_ret pe_bl)) pss_nil)
      (pss_cons (ps_asg (pv 0) (pgT (K := K) rfl rfl (pgs_cons (pg_name (i := 1) sc_is_web.nd rfl (Or.inr rfl)) (pgs_cons (pg_name (i := 2) sc_is_web.nd rfl (Or.inr rfl)) pgs_nil))))
      (pss_cons (ps_if (PW.pt (pw_or (pt_not (pt_val (pe_callB (isiK (K := K) rfl) (by rfl) B.isinstance bb_isinstance (pa_cons (pv 2) (pa_cons (pe_bltn (v := .ty "tuple") (by rfl) B.tuple bb_tuple rfl) pa_nil))))) (pw_or1 (pt_not (pt_val (pe_callB (allK (K := K) rfl rfl) (by rfl) B.all bb_all (pa_cons (pe_lc (own := [("one", 3)]) (g := (gName 3)) (tt := tYes) rfl sc_is_web.nd (piT (K := K) rfl (pv 2)) (blkOk_by (own := [("one", 3)]) (N := ["value", "many", "lines", "one", "at"]) (sc := defScope s_is_web) (by decide +kernel)) (fun _ _ _ _ _ => (pg_name (i := 3) sc_is_web.nd rfl (Or.inl rfl))) (fun _ _ _ _ _ => pts_nil) (fun _ _ _ _ _ => (pe_cal c_is_pair (hr.mono (by decide)) (by rfl) (pa_cons (pv 3) (pa_cons (pe_op op_sub (pv 1) pe_int) pa_nil))))) pa_nil))))))) (pss_one (ps_ret pe_bl)) pss_nil)
      (pss_one (ps_ret (pe_callB (allK (K := K) rfl rfl) (by rfl) B.all bb_all (pa_cons (pe_lc (own := [("at", 4)]) (g := (gName 4)) (tt := tYes) rfl sc_is_web.nd (pi_range1 (by rfl) B.range (pa_cons (pe_op op_sub (pe_callB (lenK (K := K) rfl) (by rfl) B.len bb_len (pa_cons (pv 2) pa_nil)) pe_int) pa_nil)) (blkOk_by (own := [("at", 4)]) (N := ["value", "many", "lines", "one", "at"]) (sc := defScope s_is_web) (by decide +kernel)) (fun _ _ _ _ _ => (pg_name (i := 4) sc_is_web.nd rfl (Or.inl rfl))) (fun _ _ _ _ _ => pts_nil) (fun _ _ _ _ _ => (pe_cmpR (ltTK (K := K) rfl (hu0 hr)) (pe_ix (ixT (K := K) rfl) (pv 2) (pv 4) (fun _ _ => rfl)) (pe_ix (ixT (K := K) rfl) (pv 2) (pe_op op_add (pv 4) pe_int) (fun _ _ => rfl)) (nomark _)))) pa_nil))))))), fun ds r ⟨d, e1, hsm, e2⟩ => ?_⟩
  subst e1 e2
  cases hd : isTup d with
  | false =>
    rw [webB_tup hd]
    exact ⟨_, ss_seqR (ss_if (et_orT (et_not (et_B (ee_is_bool (ee_isTup (ee_var rfl)) hd)))) (fun _ => ss_ret ee_bl) (fun h => by cases h)), rfl⟩
  | true =>
    obtain ⟨xs, rfl⟩ : ∃ xs, d = .tuple xs := by cases d <;> first | exact ⟨_, rfl⟩ | cases hd
    by_cases hl : xs.length = 2
    · obtain ⟨x, y, rfl⟩ : ∃ x y, xs = [x, y] := by
        match xs, hl with
        | [x, y], _ => exact ⟨x, y, rfl⟩
      cases hx : wholeB x 1 6 with
      | false =>
        rw [webB_first hx]
        exact ⟨_, ss_seqR (ss_if (et_orF (et_not (et_B (ee_isTup (d := .tuple [x, y]) (ee_var rfl)))) (et_orF (et_test (ee_op (ee_cb (ea_1 (ee_var rfl)) (rb_lenT (es := [x, y]))) ee_int re_neI)) (et_not (et_B (ee_is_bool (ee_call (ea_3 (ee_op (ee_var rfl) ee_int (re_ixT (d := x) rfl)) ee_int ee_int) ⟨x, 1, 6, rfl, rfl⟩) hx)))))
          (fun _ => ss_ret ee_bl) (fun h => by cases h)), rfl⟩
      | true =>
        obtain ⟨n, rfl⟩ : ∃ n, x = .int n := by cases x <;> first | exact ⟨_, rfl⟩ | exact absurd hx (by simp [wholeB])
        have first := ss_if (X := E) (o := .nx (slots 5 [.tuple [.int n, y]])) (t := tRet (tC (.bl false))) (u := tNext) (et_orF (T := []) (et_not (et_B (ee_isTup (K := K) (d := .tuple [.int n, y]) (ee_var (ρ := slots 5 [.tuple [.int n, y]]) (i := 0) rfl)))) (et_orF (et_test (ee_op (ee_cb (ea_1 (ee_var (i := 0) rfl)) (rb_lenT (K := K) (es := [.int n, y]))) (ee_int (i := 2)) re_neI)) (et_not (et_B (ee_is_bool (ee_call (R := R_is_whole) (E := E0) (ea_3 (ee_op (ee_var (i := 0) rfl) (ee_int (i := 0)) (re_ixT (K := K) (d := .int n) rfl)) (ee_int (i := 1)) (ee_int (i := 6))) ⟨.int n, 1, 6, rfl, rfl⟩) hx)))))
          (fun h => by cases h) (fun _ => ss_next)
        have second := ss_asg (X := E) (ee_var (T := []) (ρ := slots 5 [.tuple [.int n, y]]) (i := 0) rfl) (eg_tup2 (K := K) (i := 1) (j := 2))
        cases hy : isTup y with
        | false =>
          rw [webB_second hy]
          exact ⟨_, ss_seq first (ss_seq second (ss_seqR (ss_if (et_orT (et_not (et_B (ee_is_bool (ee_isTup (ee_var rfl)) hy)))) (fun _ => ss_ret ee_bl) (fun h => by cases h)))), rfl⟩
        | true =>
          obtain ⟨es, rfl⟩ : ∃ es, y = .tuple es := by cases y <;> first | exact ⟨_, rfl⟩ | cases hy
          have hes := hsm _ _ rfl
          have third := et_orF (T := []) (et_not (et_B (ee_isTup (K := K) (d := .tuple es) (ee_var (ρ := ((slots 5 [.tuple [.int n, .tuple es]]).set 1 (.dat (.int n))).set 2 (.dat (.tuple es))) (i := 2) rfl)))) (et_not (et_B (ee_cb (r := rAll K) (ea_1 (el_lcT (K := K) (tl := tVar 2) (g := gName 3) (tt := tYes) (vs := [3])
              (ee_var rfl) (lcr_dbools (fun d => pairB d (n - 1)) es fun x _ => lc1m (by intro _ _ h; cases h) (ee_call (R := R_is_pair) (E := E0) (ea_2 (ee_var (i := 3) rfl) (ee_op (ee_var (i := 1) rfl) (ee_int (i := 1)) re_sub)) ⟨x, n - 1, rfl, rfl⟩)) (by simp; omega)).ee) rb_all)))
          cases hall : (es.map fun d => pairB d (n - 1)).all id with
          | false =>
            rw [webB_pairs hall]
            rw [hall] at third
            exact ⟨_, ss_seq first (ss_seq second (ss_seqR (ss_if third (fun _ => ss_ret ee_bl) (fun h => by cases h)))), rfl⟩
          | true =>
            rw [hall] at third
            have hp : ∀ d ∈ es, pairB d (n - 1) = true := fun d hd => by
              rw [List.all_map, List.all_eq_true] at hall
              exact hall d hd
            obtain ⟨ps, rfl⟩ := pairs_of hp
            rw [webB_last hx hp, ← asc_is ps]
            have hps : ps.length ≤ 10000 := by simpa using hes
            have fourth := ss_ret (X := E) (ee_cb (T := []) (r := rAll K) (ea_1 (el_lcR1 (ρ := ((slots 5 [.tuple [.int n, .tuple (ps.map eP)]]).set 1 (.dat (.int n))).set 2 (.dat (.tuple (ps.map eP)))) (g := gName 4) (tt := tYes) (vs := [4]) (n := ((ps.map eP).length : Int) - 1)
              (ea_1 (ee_op (ee_cb (ea_1 (ee_var (i := 2) rfl)) (rb_lenT (K := K))) (ee_int (i := 1)) re_sub)) (by simp; omega) (lcr_bools (fun (i : Nat) => PyData.int (0 + (i : Int))) (fun i => HT.lexLt [(pAt ps i).1, (pAt ps i).2] [(pAt ps (i + 1)).1, (pAt ps (i + 1)).2]) (List.range (((ps.map eP).length : Int) - 1).toNat) fun i hi => by
                have hi' : i + 1 < ps.length := by
                  have := List.mem_range.mp hi
                  simp at this
                  omega
                have e0 : (0 : Int) + (i : Int) = ((i : Nat) : Int) := Int.zero_add _
                rw [e0]
                exact lc1m (by intro _ _ h; cases h) (ee_op (ee_op (ee_var (i := 2) rfl) (ee_var (i := 4) rfl) (re_ixT (K := K) (pAt_ok (by omega)))) (ee_op (ee_var (i := 2) rfl) (ee_op (ee_var (i := 4) rfl) (ee_int (i := 1)) re_add) (re_ixT (K := K) (pAt_ok hi'))) (re_ltT (K := K) (ns := [(pAt ps i).1, (pAt ps i).2]) (ms := [(pAt ps (i + 1)).1, (pAt ps (i + 1)).2])))) (by simp; omega)).ee) rb_all)
            have e1 : (((ps.map eP).length : Int) - 1).toNat = ps.length - 1 := by simp
            rw [e1] at fourth
            exact ⟨_, ss_seq first (ss_seq second (ss_seq (ss_if third (fun h => by cases h) (fun _ => ss_next)) fourth)), rfl⟩
    · rw [webB_len hl]
      exact ⟨_, ss_seqR (ss_if (et_orF (et_not (et_B (ee_isTup (d := .tuple xs) (ee_var rfl)))) (et_orT (ET.is (et_test (ee_op (ee_cb (ea_1 (ee_var rfl)) (rb_lenT (es := xs))) ee_int re_neI)) (show (!decide ((xs.length : Int) = 2)) = true by simp; omega)))) (fun _ => ss_ret ee_bl) (fun h => by cases h)), rfl⟩

end
end U
namespace U
open PySem L2 PyProof.Rows DL
open Evl (Ex)
open LamX (lamS_by)
section
variable {P : Program} {w : World} {K : PySem.W.Frag} {mg : Str → Option Value} {base : Heap} {xa : Str → Addr}
abbrev s_need_web : Stmt := topS 11
theorem sc_need_web : FnScope ["web"] ["web"] (defScope s_need_web) := ⟨rfl, rfl, rfl, by decide +kernel, rfl, by decide +kernel, by decide +kernel⟩
theorem bd_need_web : BindsAs "need_web" s_need_web ["web"] := fun _ _ _ _ _ _ us hl => match us, hl with | [_], _ => rfl

def R_need_web (xa : XA) : List PyData → Res → Prop := fun ds r => ∃ d, ds = [d] ∧ smallW d ∧ r = needWeb xa d
theorem ok_need_web (F : Fn K mg "need_web" s_need_web) (B : Bt mg) (x_InvalidWeb : Xc K mg "InvalidWeb" (xa "InvalidWeb")) (c_is_web : Cal P w K mg base 3 "is_web" ["value"] (spP R_is_web)) : Cal P w K mg base 4 "need_web" ["web"] (spP (R_need_web xa)) :=
  calP F sc_need_web bd_need_web (fun ds r ⟨_, e, _⟩ => by rw [e]; rfl) fun f cdv A outer s H E hr => by
  refine ⟨_, (pss_one (ps_if (pt_not (pt_val (pe_cal c_is_web (hr.mono (by decide)) (by rfl) (pa_cons (pv 0) pa_nil)))) (pss_one (ps_raiseC (E := E) x_InvalidWeb rfl (by rfl) (takesN rfl rfl rfl rfl))) pss_nil)), fun ds r ⟨d, e1, hsm, e2⟩ => ?_⟩
  subst e1 e2
  unfold needWeb
  have t := et_not (et_B (ee_call (T := []) (E := E0) (R := R_is_web) (ea_1 (ee_var (ρ := slots 1 [d]) (i := 0) rfl)) ⟨d, rfl, hsm, rfl⟩))
  cases h : webB d with
  | true =>
    rw [h] at t
    exact ⟨_, ss_if t (fun h => by cases h) (fun _ => ss_next), rfl⟩
  | false =>
    rw [h] at t
    exact ⟨_, ss_if t (fun _ => ss_raiseC) (fun h => by cases h), rfl⟩

end
end U
namespace U
open PySem L2 PyProof.Rows DL
open Evl (Ex)
open LamX (lamS_by)
section
variable {P : Program} {w : World} {K : PySem.W.Frag} {mg : Str → Option Value} {base : Heap} {xa : Str → Addr}
abbrev s_top_of : Stmt := topS 14
theorem sc_top_of : FnScope ["web"] ["web"] (defScope s_top_of) := ⟨rfl, rfl, rfl, by decide +kernel, rfl, by decide +kernel, by decide +kernel⟩
theorem bd_top_of : BindsAs "top_of" s_top_of ["web"] := fun _ _ _ _ _ _ us hl => match us, hl with | [_], _ => rfl

def R_top_of : List PyData → Res → Prop := fun ds r => ∃ v : Wb, ds = [eW v] ∧ r = .ok (.int (topW v))
theorem ok_top_of (F : Fn K mg "top_of" s_top_of) (B : Bt mg) : Cal P w K mg base 1 "top_of" ["web"] (spP R_top_of) :=
  calQ F sc_top_of bd_top_of (fun ds r ⟨_, e, _⟩ => by rw [e]; rfl) fun f cdv A outer s H E hr => by
  refine ⟨_, (pss_one (ps_ret (pe_callB (lenK (K := K) rfl) (by rfl) B.len bb_len (pa_cons (pe_ix (ixT (K := K) rfl) (pv 0) pe_int (fun _ _ => rfl)) pa_nil)))), fun ds r ⟨v, e1, e2⟩ => ?_⟩
  subst e1 e2
  refine ⟨_, ss_ret (ee_cb (ea_1 (ee_op (ee_var rfl) ee_int (re_ixT (d := ePs v.2) rfl))) rb_lenT), ?_⟩
  show _ = _
  rw [List.length_map]
  rfl

end
end U
namespace U
open PySem L2 PyProof.Rows DL
open Evl (Ex)
open LamX (lamS_by)
section
variable {P : Program} {w : World} {K : PySem.W.Frag} {mg : Str → Option Value} {base : Heap} {xa : Str → Addr}
abbrev s_near_of : Stmt := topS 22
theorem sc_near_of : FnScope ["web", "place", "first", "last"] ["web", "place"] (defScope s_near_of) := ⟨rfl, rfl, rfl, by decide +kernel, rfl, by decide +kernel, by decide +kernel⟩
theorem bd_near_of : BindsAs "near_of" s_near_of ["web", "place"] := fun _ _ _ _ _ _ us hl => match us, hl with | [_, _], _ => rfl

def R_near_of : List PyData → Res → Prop := fun ds r => ∃ (v : Wb) (p : Int), ds = [eW v, .int p] ∧ v.2.length ≤ 1000 ∧ r = .ok (eL (nearN v p))
theorem near_len (v : Wb) (p : Int) : (nearN v p).length ≤ v.2.length := by unfold nearN; rw [List.length_map]; exact List.length_filter_le _ _
theorem ok_near_of (F : Fn K mg "near_of" s_near_of) (B : Bt mg) : Cal P w K mg base 1 "near_of" ["web", "place"] (spP R_near_of) :=
  calQ F sc_near_of bd_near_of (fun ds r ⟨_, _, e, _⟩ => by rw [e]; rfl) fun f cdv A outer s H E hr => by
  refine ⟨_, (pss_one (ps_ret (pe_lc (own := [("first", 2), ("last", 3)]) (g := (gTup K 2 (gCons (gName 2) (gCons (gName 3) gNil)))) rfl sc_near_of.nd (piT (K := K) rfl (pe_ix (ixT (K := K) rfl) (pv 0) pe_int (fun _ _ => rfl))) (blkOk_by (own := [("first", 2), ("last", 3)]) (N := ["web", "place", "first", "last"]) (sc := defScope s_near_of) (by decide +kernel)) (fun _ _ _ _ _ => (pgT (K := K) rfl rfl (pgs_cons (pg_name (i := 2) sc_near_of.nd rfl (Or.inl rfl)) (pgs_cons (pg_name (i := 3) sc_near_of.nd rfl (Or.inl rfl)) pgs_nil)))) (fun _ _ _ _ _ => (pts_one (pt_cmpR (inK (K := K) rfl) (pv 1) (pe_tup (pa_cons (pv 2) (pa_cons (pv 3) pa_nil))) (by rfl)))) (fun _ _ _ _ _ => (pe_op op_sub (pe_op op_add (pv 2) (pv 3)) (pv 1)))))), fun ds r ⟨v, p, e1, hl, e2⟩ => ?_⟩
  subst e1 e2
  have := near_len v p
  refine ⟨_, ss_ret (el_lcTp (es := (nearN v p).map PyData.int) (ee_op (ee_var rfl) ee_int (re_ixT (d := ePs v.2) rfl)) ?_ (by rw [List.length_map]; omega)).ee, rfl⟩
  unfold nearN
  rw [List.map_map]
  exact lcr_filter eP (fun q => [q.1, q.2].contains p) (fun q => .int (q.1 + q.2 - p)) v.2 fun q _ => lc2 (by decide) (by intro _ _ h; cases h) (by intro _ _ h; cases h) (et_test (ee_op (ee_var rfl) (ee_tup (ea_2 (ee_var rfl) (ee_var rfl)) (by simp)) (re_inT (ns := [q.1, q.2])))) (fun _ => ee_op (ee_op (ee_var rfl) (ee_var rfl) re_add) (ee_var rfl) re_sub)

end
end U
namespace U
open PySem L2 PyProof.Rows DL
open Evl (Ex)
open LamX (lamS_by)
section
variable {P : Program} {w : World} {K : PySem.W.Frag} {mg : Str → Option Value} {base : Heap} {xa : Str → Addr}
abbrev s_are_twins : Stmt := topS 23
theorem sc_are_twins : FnScope ["web", "one", "other", "first", "place"] ["web", "one", "other"] (defScope s_are_twins) := ⟨rfl, rfl, rfl, by decide +kernel, rfl, by decide +kernel, by decide +kernel⟩
theorem bd_are_twins : BindsAs "are_twins" s_are_twins ["web", "one", "other"] := fun _ _ _ _ _ _ us hl => match us, hl with | [_, _, _], _ => rfl

def R_are_twins : List PyData → Res → Prop := fun ds r => ∃ (v : Wb) (a b : Int), ds = [eW v, .int a, .int b] ∧ v.2.length ≤ 60 ∧ r = .ok (.bool (twinN v a b))
theorem ok_are_twins (F : Fn K mg "are_twins" s_are_twins) (B : Bt mg) (c_near_of : Cal P w K mg base 1 "near_of" ["web", "place"] (spP R_near_of)) : Cal P w K mg base 2 "are_twins" ["web", "one", "other"] (spP R_are_twins) :=
  calQ F sc_are_twins bd_are_twins (fun ds r ⟨_, _, _, e, _⟩ => by rw [e]; rfl) fun f cdv A outer s H E hr => by
  refine ⟨_, (pss_cons (ps_set (i := 3) sc_are_twins.nd rfl (Or.inl rfl) (pe_callB (srtI (K := K) rfl) (by rfl) B.sorted bb_sorted (pa_cons (pe_lc (own := [("place", 4)]) (g := (gName 4)) rfl sc_are_twins.nd (piL (K := K) rfl (pe_cal c_near_of (hr.mono (by decide)) (by rfl) (pa_cons (pv 0) (pa_cons (pv 1) pa_nil)))) (blkOk_by (own := [("place", 4)]) (N := ["web", "one", "other", "first", "place"]) (sc := defScope s_are_twins) (by decide +kernel)) (fun _ _ _ _ _ => (pg_name (i := 4) sc_are_twins.nd rfl (Or.inl rfl))) (fun _ _ _ _ _ => (pts_one (pt_cmpR op_ne (pv 4) (pv 2) (nomark _)))) (fun _ _ _ _ _ => (pv 4))) pa_nil)))
      (pss_one (ps_ret (pe_cmpR (eqDK (K := K) rfl (hu64 hr)) (pv 3) (pe_callB (srtI (K := K) rfl) (by rfl) B.sorted bb_sorted (pa_cons (pe_lc (own := [("place", 4)]) (g := (gName 4)) rfl sc_are_twins.nd (piL (K := K) rfl (pe_cal c_near_of (hr.mono (by decide)) (by rfl) (pa_cons (pv 0) (pa_cons (pv 2) pa_nil)))) (blkOk_by (own := [("place", 4)]) (N := ["web", "one", "other", "first", "place"]) (sc := defScope s_are_twins) (by decide +kernel)) (fun _ _ _ _ _ => (pg_name (i := 4) sc_are_twins.nd rfl (Or.inl rfl))) (fun _ _ _ _ _ => (pts_one (pt_cmpR op_ne (pv 4) (pv 1) (nomark _)))) (fun _ _ _ _ _ => (pv 4))) pa_nil)) (nomark _))))), fun ds r ⟨v, a, b, e1, hl, e2⟩ => ?_⟩
  subst e1 e2
  have la := near_len v a
  have lb := near_len v b
  have fa := List.length_filter_le (fun x => !decide (x = b)) (nearN v a)
  have fb := List.length_filter_le (fun x => !decide (x = a)) (nearN v b)
  refine ⟨_, ss_seq (ss_set (el_cb (ea_1 (el_lcLp (es := ((nearN v a).filter fun x => !decide (x = b)).map PyData.int) (ee_call (ea_2 (ee_var rfl) (ee_var rfl)) ⟨v, a, rfl, by omega, rfl⟩) (lcr_filter PyData.int (fun x => !decide (x = b)) PyData.int _ fun x _ => lc1 (by intro _ _ h; cases h) (et_test (ee_op (ee_var rfl) (ee_var rfl) re_neI)) (fun _ => ee_var rfl)) (by rw [List.length_map]; omega)).ee) rbl_sorted).ee)
    (ss_ret (EE.is (ee_op (ee_var rfl) (el_cb (ea_1 (el_lcLp (es := ((nearN v b).filter fun x => !decide (x = a)).map PyData.int) (ee_call (ea_2 (ee_var rfl) (ee_var rfl)) ⟨v, b, rfl, by omega, rfl⟩) (lcr_filter PyData.int (fun x => !decide (x = a)) PyData.int _ fun x _ => lc1 (by intro _ _ h; cases h) (et_test (ee_op (ee_var rfl) (ee_var rfl) re_neI)) (fun _ => ee_var rfl)) (by rw [List.length_map]; omega)).ee) rbl_sorted).ee (re_eqD (sh_eL _) (sh_eL _))) (by rw [eqv_eL]; rfl))), rfl⟩

end
end U
namespace U
open PySem L2 PyProof.Rows DL
open Evl (Ex)
open LamX (lamS_by)
section
variable {P : Program} {w : World} {K : PySem.W.Frag} {mg : Str → Option Value} {base : Heap} {xa : Str → Addr}
abbrev s_plan_of : Stmt := topS 24
theorem sc_plan_of : FnScope ["web", "found", "place", "near", "one"] ["web"] (defScope s_plan_of) := ⟨rfl, rfl, rfl, by decide +kernel, rfl, by decide +kernel, by decide +kernel⟩
theorem bd_plan_of : BindsAs "plan_of" s_plan_of ["web"] := fun _ _ _ _ _ _ us hl => match us, hl with | [_], _ => rfl

def R_plan_of : List PyData → Res → Prop := fun ds r => ∃ (v : Wb), ds = [eW v] ∧ v.2.length ≤ 60 ∧ 0 ≤ v.1 ∧ v.1 ≤ 60 ∧ r = .ok (ePl (planN v))
theorem ok_plan_of (F : Fn K mg "plan_of" s_plan_of) (B : Bt mg) (c_near_of : Cal P w K mg base 1 "near_of" ["web", "place"] (spP R_near_of)) (c_are_twins : Cal P w K mg base 2 "are_twins" ["web", "one", "other"] (spP R_are_twins)) : Cal P w K mg base 3 "plan_of" ["web"] (spP R_plan_of) :=
  calQ F sc_plan_of bd_plan_of (fun ds r ⟨_, e, _⟩ => by rw [e]; rfl) fun f cdv A outer s H E hr => by
  refine ⟨_, (pss_cons (ps_set (i := 1) sc_plan_of.nd rfl (Or.inl rfl) (pe_lst pa_nil))
      (pss_cons (ps_for PassesOwn.never rfl (pi_range1 (by rfl) B.range (pa_cons (pe_ix (ixT (K := K) rfl) (pv 0) pe_int (fun _ _ => rfl)) pa_nil)) (pg_name (i := 2) sc_plan_of.nd rfl (Or.inr rfl)) (pss_cons (ps_setLc (i := 3) (own := [("one", 4)]) (g := (gName 4)) rfl sc_plan_of.nd rfl rfl (sw_true rfl rfl rfl (by decide +kernel)) (piL (K := K) rfl (pe_cal c_near_of (hr.mono (by decide)) (by rfl) (pa_cons (pv 0) (pa_cons (pv 2) pa_nil)))) (blkOk_by (own := [("one", 4)]) (N := ["web", "found", "place", "near", "one"]) (sc := defScope s_plan_of) (by decide +kernel)) (fun _ _ _ _ _ => (pg_name (i := 4) sc_plan_of.nd rfl (Or.inl rfl))) (fun _ _ _ _ _ => (pts_one (pt_cmpR op_lt (pv 4) (pv 2) (nomark _)))) (fun _ _ _ _ _ => (pv 4)))
      (pss_one (ps_expr (appK (K := K) rfl (pv 1) (pa_cons (pe_tup (pa_cons (pv 3) (pa_cons (pe_lc (own := [("one", 4)]) (g := (gName 4)) rfl sc_plan_of.nd (pi_range1 (by rfl) B.range (pa_cons (pv 2) pa_nil)) (blkOk_by (own := [("one", 4)]) (N := ["web", "found", "place", "near", "one"]) (sc := defScope s_plan_of) (by decide +kernel)) (fun _ _ _ _ _ => (pg_name (i := 4) sc_plan_of.nd rfl (Or.inl rfl))) (fun _ _ _ _ _ => (pts_one (pt_val (pe_cal c_are_twins (hr.mono (by decide)) (by rfl) (pa_cons (pv 0) (pa_cons (pv 4) (pa_cons (pv 2) pa_nil))))))) (fun _ _ _ _ _ => (pv 4))) pa_nil))) pa_nil))))))
      (pss_one (ps_ret (pv 1))))), fun ds r ⟨v, e1, hl, h0, hn, e2⟩ => ?_⟩
  subst e1 e2
  have epl : (planN v).map eLL = [] ++ (ri 0 v.1.toNat).map fun p => eLL (planAt v p) := by
    unfold planN
    rw [List.map_map, List.nil_append]; rfl
  refine ⟨_, ss_seq (ss_own (el_lst ea_nil (by decide))) (ss_seq (ss_forR1i (n := v.1) (ea_1 (ee_op (ee_var rfl) ee_int (re_ixT (d := .int v.1) rfl))) (by omega) (o := .nx [.dat (eW v), .own none ((planN v).map eLL), .no, .no, .no]) ?_) (ss_give (i := 1) rfl (ss_ret (ee_var rfl)))), rfl⟩
  rw [epl]
  refine forR_acc PyData.int (fun p => eLL (planAt v p)) (fun acc => [.dat (eW v), .own none acc, .no, .no, .no]) (ri 0 v.1.toNat) [] fun acc p hp hacc => ?_
  have hp' := mem_ri.mp hp
  rw [ri_len] at hacc
  have ln := near_len v p
  have lf := List.length_filter_le (fun o => decide (o < p)) (nearN v p)
  have lr := List.length_filter_le (fun o => twinN v o p) (ri 0 p.toNat)
  rw [ri_len] at lr
  refine ⟨_, eg_name, ss_forget (ss_seq (ss_set (el_lcLp (es := ((nearN v p).filter fun o => decide (o < p)).map PyData.int) (ee_call (ea_2 (ee_var rfl) (ee_var rfl)) ⟨v, p, rfl, by omega, rfl⟩) (lcr_filter PyData.int (fun o => decide (o < p)) PyData.int _ fun x _ => lc1 (by intro _ _ h; cases h) (et_test (ee_op (ee_var rfl) (ee_var rfl) re_lt)) (fun _ => ee_var rfl)) (by rw [List.length_map]; omega)).ee)
    (ss_app rfl (ee_tup (ea_2 (ee_var rfl) (el_lcR1p (n := p) (es := ((ri 0 p.toNat).filter fun o => twinN v o p).map PyData.int) (ea_1 (ee_var rfl)) (by omega) (lcr_filter PyData.int (fun o => twinN v o p) PyData.int _ fun x _ => lc1 (by intro _ _ h; cases h) (et_B (ee_call (ea_3 (ee_var rfl) (ee_var rfl) (ee_var rfl)) ⟨v, x, p, rfl, hl, rfl⟩)) (fun _ => ee_var rfl)) (by rw [List.length_map]; omega)).ee) (by simp)) rfl (by simp at hacc; omega))) ?_⟩
  exact .same (.same (.no (.no (.no .nil))))

end
end U
namespace U
open PySem L2 PyProof.Rows DL
open Evl (Ex)
open LamX (lamS_by)
section
variable {P : Program} {w : World} {K : PySem.W.Frag} {mg : Str → Option Value} {base : Heap} {xa : Str → Addr}
abbrev s_next_ones : Stmt := topS 26
theorem sc_next_ones : FnScope ["plan", "top", "begun", "fixed", "used", "near", "twins", "low", "found", "number", "both", "at", "place"] ["plan", "top", "begun", "fixed", "used"] (defScope s_next_ones) := ⟨rfl, rfl, rfl, by decide +kernel, rfl, by decide +kernel, by decide +kernel⟩
theorem bd_next_ones : BindsAs "next_ones" s_next_ones ["plan", "top", "begun", "fixed", "used"] := fun _ _ _ _ _ _ us hl => match us, hl with | [_, _, _, _, _], _ => rfl

def R_next_ones : List PyData → Res → Prop := fun ds r => ∃ (pl : Pl) (top : Int) (b : List Int) (fixed : Int) (used : List Int), ds = [ePl pl, .int top, eT b, .int fixed, eL used] ∧ WfPl pl ∧ b.length < pl.length ∧ pl.length ≤ 60 ∧ 0 ≤ top ∧ top ≤ 100 ∧ (∀ n ∈ b, n ≤ 100) ∧ used.length ≤ 2000 ∧ r = .ok (.list ((nextN pl top b fixed used).map eTL))
theorem lowN_le {tw b : List Int} {fixed : Int} (h : ∀ n ∈ b, n ≤ 100) (h2 : ∀ x ∈ tw, 0 ≤ x ∧ x < (b.length : Int)) : lowN tw b fixed ≤ 100 ∧ -1 ≤ lowN tw b fixed := by
  unfold lowN
  refine ⟨?_, (fmax_ge _ _).1⟩
  rcases fmax_mem ((tw.filter fun t => decide (fixed ≤ t)).map (at0 b)) (-1) with e | e
  · rw [e]; decide
  · obtain ⟨t, ht, e'⟩ := List.mem_map.mp e
    have ht := h2 t (List.mem_filter.mp ht).1
    rw [← e']
    exact h _ (at0_mem ht.1 ht.2)
theorem ok_next_ones (F : Fn K mg "next_ones" s_next_ones) (B : Bt mg) : Cal P w K mg base 1 "next_ones" ["plan", "top", "begun", "fixed", "used"] (spP R_next_ones) :=
  calQ F sc_next_ones bd_next_ones (fun ds r ⟨_, _, _, _, _, e, _⟩ => by rw [e]; rfl) fun f cdv A outer s H E hr => by
  refine ⟨_, (pss_cons (ps_asg (pe_ix (ixL (K := K) rfl) (pv 0) (pe_callB (lenK (K := K) rfl) (by rfl) B.len bb_len (pa_cons (pv 2) pa_nil)) (fun _ _ => rfl)) (pgT (K := K) rfl rfl (pgs_cons (pg_name (i := 5) sc_next_ones.nd rfl (Or.inl rfl)) (pgs_cons (pg_name (i := 6) sc_next_ones.nd rfl (Or.inl rfl)) pgs_nil))))
      (pss_cons (ps_set (i := 7) sc_next_ones.nd rfl (Or.inl rfl) (pe_callB (maxK (K := K) rfl rfl) (by rfl) B.max bb_max (pa_cons (pe_op op_cat (pe_lst (pa_cons (pe_un un_neg pe_int) pa_nil)) (pe_lc (own := [("at", 11)]) (g := (gName 11)) rfl sc_next_ones.nd (piL (K := K) rfl (pv 6)) (blkOk_by (own := [("at", 11)]) (N := ["plan", "top", "begun", "fixed", "used", "near", "twins", "low", "found", "number", "both", "at", "place"]) (sc := defScope s_next_ones) (by decide +kernel)) (fun _ _ _ _ _ => (pg_name (i := 11) sc_next_ones.nd rfl (Or.inl rfl))) (fun _ _ _ _ _ => (pts_one (pt_cmpR op_ge (pv 11) (pv 3) (nomark _)))) (fun _ _ _ _ _ => (pe_ix (ixT (K := K) rfl) (pv 2) (pv 11) (fun _ _ => rfl))))) pa_nil)))
      (pss_cons (ps_set (i := 8) sc_next_ones.nd rfl (Or.inl rfl) (pe_lst pa_nil))
      (pss_cons (ps_for PassesOwn.never rfl (pi_range2 (by rfl) B.range (pa_cons (pe_op op_add (pv 7) pe_int) (pa_cons (pe_op op_add (pv 1) pe_int) pa_nil))) (pg_name (i := 9) sc_next_ones.nd rfl (Or.inr rfl)) (pss_cons (ps_set (i := 10) sc_next_ones.nd rfl (Or.inl rfl) (pe_op op_cat (pv 4) (pe_lc (own := [("place", 12)]) (g := (gName 12)) (tt := tYes) rfl sc_next_ones.nd (piL (K := K) rfl (pv 5)) (blkOk_by (own := [("place", 12)]) (N := ["plan", "top", "begun", "fixed", "used", "near", "twins", "low", "found", "number", "both", "at", "place"]) (sc := defScope s_next_ones) (by decide +kernel)) (fun _ _ _ _ _ => (pg_name (i := 12) sc_next_ones.nd rfl (Or.inl rfl))) (fun _ _ _ _ _ => pts_nil) (fun _ _ _ _ _ => (pe_callB call_abs (by rfl) B.abs bb_abs (pa_cons (pe_op op_sub (pe_ix (ixT (K := K) rfl) (pv 2) (pv 12) (fun _ _ => rfl)) (pv 9)) pa_nil))))))
      (pss_one (ps_if (PW.pt (pw_and (pt_cmpR (niK (K := K) rfl) (pv 9) (pv 2) (by rfl)) (pw_and1 (pt_cmpR op_eq (pe_callB cr_lenS (by rfl) B.len bb_len (pa_cons (pe_callTy (setK (K := K) rfl rfl) (by rfl) B.set bb_set (pa_cons (pv 10) pa_nil)) pa_nil)) (pe_callB (lenK (K := K) rfl) (by rfl) B.len bb_len (pa_cons (pv 10) pa_nil)) (nomark _))))) (pss_one (ps_expr (appK (K := K) rfl (pv 8) (pa_cons (pe_tup (pa_cons (pe_op (catAK (K := K) rfl) (pv 2) (pe_tup (pa_cons (pv 9) pa_nil))) (pa_cons (pv 10) pa_nil))) pa_nil)))) pss_nil))))
      (pss_one (ps_ret (pv 8))))))), fun ds r ⟨pl, top, b, fixed, used, e1, hw, hl, h60, t0, t1, hb, hu, e2⟩ => ?_⟩
  subst e1 e2
  obtain ⟨w1, w2, w3, w4⟩ := hw b.length hl
  have hat : atI (pl.map eLL) (((b.map PyData.int).length : Nat) : Int) = some (eLL (plAt pl b.length)) := by rw [List.length_map]; exact plAt_ok hl
  unfold nextN
  generalize plAt pl b.length = q at *
  have hlow := lowN_le (fixed := fixed) hb w2
  have lf := List.length_filter_le (fun t => decide (fixed ≤ t)) q.2
  refine ⟨_, ss_seq (ss_asg (ee_op (ee_var rfl) (ee_cb (ea_1 (ee_var rfl)) rb_lenT) (re_ixL hat)) (eg_tup2 (x := eL q.1) (y := eL q.2))) (ss_seq (ss_set (ee_cb (ea_1 (el_op (es := (-1 :: (q.2.filter fun t => decide (fixed ≤ t)).map (at0 b)).map PyData.int) (el_lst (ea_1 (ee_neg ee_int)) (by simp)).ee (el_lcLp (es := (q.2.filter fun t => decide (fixed ≤ t)).map fun t => PyData.int (at0 b t)) (ee_var rfl) (lcr_filter PyData.int (fun t => decide (fixed ≤ t)) (fun t => .int (at0 b t)) q.2 fun t ht => lc1 (by intro _ _ h; cases h) (et_test (ee_op (ee_var rfl) (ee_var rfl) re_ge)) (fun _ => ee_op (ee_var rfl) (ee_var rfl) (re_ixT (at0_ok (w2 t ht).1 (w2 t ht).2)))) (by rw [List.length_map]; omega)).ee ?_).ee) rb_low)) (ss_seq (ss_own (el_lst ea_nil (by decide))) (ss_seq (ss_forR2i (lo := lowN q.2 b fixed + 1) (n := top + 1) (ea_2 (ee_op (ee_var rfl) ee_int re_add) (ee_op (ee_var rfl) ee_int re_add)) (by omega) (by omega) (o := .nx [.dat (ePl pl), .dat (.int top), .dat (eT b), .dat (.int fixed), .dat (eL used), .dat (eL q.1), .dat (eL q.2), .dat (.int (lowN q.2 b fixed)), .own none ((((ri (lowN q.2 b fixed + 1) (top + 1 - (lowN q.2 b fixed + 1)).toNat).filter (okNext q b used)).map fun n => (b ++ [n], used ++ diffs q.1 b n)).map eTL), .no, .no, .no, .no]) ?_) (ss_give (i := 8) rfl (ss_ret (ee_var rfl)))))), rfl⟩
  · have := rel_cat (ds := [PyData.int (-1)]) (es := (q.2.filter fun t => decide (fixed ≤ t)).map fun t => PyData.int (at0 b t)) (by rw [List.length_map]; simp; omega)
    rw [List.map_cons, List.map_map]
    exact this
  · rw [List.map_map]
    refine forR_pre PyData.int (fun pre => [.dat (ePl pl), .dat (.int top), .dat (eT b), .dat (.int fixed), .dat (eL used), .dat (eL q.1), .dat (eL q.2), .dat (.int (lowN q.2 b fixed)), .own none ((pre.filter (okNext q b used)).map fun n => eTL (b ++ [n], used ++ diffs q.1 b n)), .no, .no, .no, .no]) _ fun pr n post e => ?_
    have hlen := congrArg List.length e
    rw [ri_len, List.length_append, List.length_cons] at hlen
    have lp := List.length_filter_le (okNext q b used) pr
    have ld : (diffs q.1 b n).length = q.1.length := by unfold diffs; rw [List.length_map]
    have both : SS [] E _ _ _ := ss_set (T := []) (X := E) (i := 10) (el_op (es := (used ++ diffs q.1 b n).map PyData.int) (ee_var (ρ := [.dat (ePl pl), .dat (.int top), .dat (eT b), .dat (.int fixed), .dat (eL used), .dat (eL q.1), .dat (eL q.2), .dat (.int (lowN q.2 b fixed)), .own none ((pr.filter (okNext q b used)).map fun n => eTL (b ++ [n], used ++ diffs q.1 b n)), .dat (.int n), .no, .no, .no]) (i := 4) rfl) (el_lcLp (K := K) (tt := tYes) (te := tCB (fun xs H Q => ∃ i, xs = [V.int i] ∧ Q (.int (if i < 0 then -i else i)) H) (tCons (tOp (rI0 fun i j => .int (i - j)) (tOp (rIxT K) (tVar 2) (tVar 12)) (tVar 9)) tNil)) (g := gName 12) (vs := [12]) (es := (diffs q.1 b n).map PyData.int) (ee_var (i := 5) rfl) (lcr_ints PyData.int (fun p => iabs (at0 b p - n)) _ fun p hp => lc1m (by intro _ _ h; cases h) (ee_cb (ea_1 (ee_op (ee_op (ee_var rfl) (ee_var rfl) (re_ixT (at0_ok (w1 p hp).1 (w1 p hp).2))) (ee_var rfl) re_sub)) rb_abs)) (by rw [List.length_map]; omega)).ee (by rw [List.map_append]; exact rel_cat (by rw [List.length_map, List.length_map]; omega))).ee
    have t1 := et_and (T := []) (et_test (ee_op (ee_var (ρ := [.dat (ePl pl), .dat (.int top), .dat (eT b), .dat (.int fixed), .dat (eL used), .dat (eL q.1), .dat (eL q.2), .dat (.int (lowN q.2 b fixed)), .own none ((pr.filter (okNext q b used)).map fun n => eTL (b ++ [n], used ++ diffs q.1 b n)), .dat (.int n), .dat (eL (used ++ diffs q.1 b n)), .no, .no]) (i := 9) rfl) (ee_var (i := 2) rfl) (re_niT (K := K)))) (fun _ => et_test (ee_op (ee_lenSetL (K := K) (ee_var (i := 10) rfl) (by rw [List.length_append]; omega)) (ee_cb (r := rLenQ K) (ea_1 (ee_var (i := 10) rfl)) rb_lenL) re_eqI))
    have eb : ((!b.contains n) && decide (((dcount (used ++ diffs q.1 b n) : Nat) : Int) = ((((used ++ diffs q.1 b n).map PyData.int).length : Nat) : Int))) = okNext q b used n := by
      unfold okNext
      rw [List.length_map]
      congr 1
      rw [Bool.eq_iff_iff, decide_eq_true_eq, decide_eq_true_eq]
      omega
    rw [eb] at t1
    rw [List.filter_append, List.map_append]
    refine ⟨_, eg_name, ss_forget (ρ1 := [.dat (ePl pl), .dat (.int top), .dat (eT b), .dat (.int fixed), .dat (eL used), .dat (eL q.1), .dat (eL q.2), .dat (.int (lowN q.2 b fixed)), .own none ((pr.filter (okNext q b used)).map (fun n => eTL (b ++ [n], used ++ diffs q.1 b n)) ++ ([n].filter (okNext q b used)).map (fun n => eTL (b ++ [n], used ++ diffs q.1 b n))), .dat (.int n), .dat (eL (used ++ diffs q.1 b n)), .no, .no]) (ss_seq both (ss_if t1 (fun h => ?_) (fun h => ?_))) ?_⟩
    · rw [List.filter_cons_of_pos h, List.filter_nil]
      refine ss_app rfl (ee_tup (ea_2 (ee_op (ee_var rfl) (ee_tup (ea_1 (ee_var rfl)) (by simp)) ?_) (ee_var rfl)) (by simp)) rfl (by rw [List.length_map]; omega)
      show RE (rCatA K) (eT b) (.tuple [.int n]) (.tuple ((b ++ [n]).map PyData.int))
      rw [List.map_append]
      exact re_catT (by rw [List.length_map]; simp; omega)
    · rw [List.filter_cons_of_neg (by rw [h]; decide), List.filter_nil, List.map_nil, List.append_nil]
      exact ss_next
    · exact .same (.same (.same (.same (.same (.same (.same (.same (.same (.no (.no (.no (.no .nil))))))))))))

end
end U
namespace U
open PySem L2 PyProof.Rows DL
open Evl (Ex)
open LamX (lamS_by)
section
variable {P : Program} {w : World} {K : PySem.W.Frag} {mg : Str → Option Value} {base : Heap} {xa : Str → Addr}
abbrev s_first_in : Stmt := topS 27
theorem sc_first_in : FnScope ["plan", "top", "begun", "fixed", "used", "more", "both", "found"] ["plan", "top", "begun", "fixed", "used"] (defScope s_first_in) := ⟨rfl, rfl, rfl, by decide +kernel, rfl, by decide +kernel, by decide +kernel⟩
theorem bd_first_in : BindsAs "first_in" s_first_in ["plan", "top", "begun", "fixed", "used"] := fun _ _ _ _ _ _ us hl => match us, hl with | [_, _, _, _, _], _ => rfl

/-- d: one more than the places left -/
def R_first_in (d : Nat) : List PyData → Res → Prop := fun ds r => ∃ (pl : Pl) (top : Int) (b : List Int) (fixed : Int) (used : List Int), ds = [ePl pl, .int top, eT b, .int fixed, eL used] ∧ WfPl pl ∧ b.length ≤ pl.length ∧ pl.length + 1 ≤ b.length + d ∧ pl.length ≤ 60 ∧ 0 ≤ top ∧ top ≤ 100 ∧ (∀ n ∈ b, n ≤ 100) ∧ used.length ≤ 100 + 20 * b.length ∧ r = .ok (optD (firstIn pl top fixed (pl.length - b.length) b used))
theorem next_mem {pl : Pl} {top : Int} {b : List Int} {fixed : Int} {used : List Int} {x : List Int × List Int} (hx : x ∈ nextN pl top b fixed used) (hl : b.length < pl.length) (hw : WfPl pl) (t1 : top ≤ 100) (hb : ∀ n ∈ b, n ≤ 100) : x.1.length = b.length + 1 ∧ (∀ n ∈ x.1, n ≤ 100) ∧ x.2.length ≤ used.length + 20 := by
  unfold nextN at hx
  obtain ⟨n, hn, rfl⟩ := List.mem_map.mp hx
  have hn := mem_ri.mp (List.mem_filter.mp hn).1
  have ld : (diffs (plAt pl b.length).1 b n).length = (plAt pl b.length).1.length := by unfold diffs; rw [List.length_map]
  have w3 := (hw b.length hl).2.2.1
  refine ⟨by simp, fun m hm => ?_, by show (used ++ diffs _ b n).length ≤ _; rw [List.length_append]; omega⟩
  rcases List.mem_append.mp hm with h | h
  · exact hb m h
  · have : m = n := by simpa using h
    omega
theorem step_first_in {k d : Nat} (F : Fn K mg "first_in" s_first_in) (B : Bt mg) (c_next_ones : Cal P w K mg base 1 "next_ones" ["plan", "top", "begun", "fixed", "used"] (spP R_next_ones)) (c_first_in : Cal P w K mg base k "first_in" ["plan", "top", "begun", "fixed", "used"] (spP (R_first_in d))) (hk : 1 ≤ k) :
    Cal P w K mg base (k + 1) "first_in" ["plan", "top", "begun", "fixed", "used"] (spP (R_first_in (d + 1))) :=
  calQ F sc_first_in bd_first_in (fun ds r ⟨_, _, _, _, _, e, _⟩ => by rw [e]; rfl) fun f cdv A outer s H E hr => by
  refine ⟨_, (pss_cons (ps_if (pt_cmpR op_eq (pe_callB (lenK (K := K) rfl) (by rfl) B.len bb_len (pa_cons (pv 2) pa_nil)) (pe_callB (lenK (K := K) rfl) (by rfl) B.len bb_len (pa_cons (pv 0) pa_nil)) (nomark _)) (pss_one (ps_ret (pv 2))) pss_nil)
      (pss_cons (ps_for PassesOwn.never rfl (piL (K := K) rfl (pe_cal c_next_ones (hr.mono (by omega)) (by rfl) (pa_cons (pv 0) (pa_cons (pv 1) (pa_cons (pv 2) (pa_cons (pv 3) (pa_cons (pv 4) pa_nil))))))) (pgT (K := K) rfl rfl (pgs_cons (pg_name (i := 5) sc_first_in.nd rfl (Or.inl rfl)) (pgs_cons (pg_name (i := 6) sc_first_in.nd rfl (Or.inl rfl)) pgs_nil))) (pss_cons (ps_set (i := 7) sc_first_in.nd rfl (Or.inl rfl) (pe_cal c_first_in (hr.mono (by omega)) (by rfl) (pa_cons (pv 0) (pa_cons (pv 1) (pa_cons (pv 5) (pa_cons (pv 3) (pa_cons (pv 6) pa_nil)))))))
      (pss_one (ps_if (pt_cmpR op_notN (pv 7) pe_non (nomark _)) (pss_one (ps_ret (pv 7))) pss_nil))))
      (pss_one (ps_ret pe_non)))), fun ds r ⟨pl, top, b, fixed, used, e1, hw, hl, hd, h60, t0, t1, hb, hu, e2⟩ => ?_⟩
  subst e1 e2
  have tt := et_test (T := []) (ee_op (ee_cb (r := rLenQ K) (ea_1 (ee_var (ρ := slots 8 [ePl pl, .int top, eT b, .int fixed, eL used]) (i := 2) rfl)) rb_lenT) (ee_cb (r := rLenQ K) (ea_1 (ee_var (i := 0) rfl)) rb_lenL) re_eqI)
  rw [List.length_map, List.length_map] at tt
  by_cases he : b.length = pl.length
  · have er : firstIn pl top fixed (pl.length - b.length) b used = some b := by
      cases pl.length - b.length <;> exact if_pos he
    rw [er]
    exact ⟨_, ss_seqR (ss_if (tt.is (decide_eq_true (by omega))) (fun _ => ss_ret (ee_var rfl)) (fun h => by cases h)), rfl⟩
  obtain ⟨m, hm⟩ : ∃ m, pl.length - b.length = m + 1 := ⟨pl.length - b.length - 1, by omega⟩
  have er : firstIn pl top fixed (pl.length - b.length) b used = (nextN pl top b fixed used).findSome? fun x => firstIn pl top fixed m x.1 x.2 := by
    rw [hm]; exact if_neg he
  rw [er]
  have hnx : ∀ x ∈ nextN pl top b fixed used, R_first_in d [ePl pl, .int top, eT x.1, .int fixed, eL x.2] (.ok (optD (firstIn pl top fixed m x.1 x.2))) := fun x hx => by
    obtain ⟨a1, a2, a3⟩ := next_mem hx (by omega) hw t1 hb
    exact ⟨pl, top, x.1, fixed, x.2, rfl, hw, by omega, by omega, h60, t0, t1, a2, by omega, by rw [show pl.length - x.1.length = m by omega]⟩
  have ne := (fun {t u : TS} (hu : SS [] E u (slots 8 [ePl pl, .int top, eT b, .int fixed, eL used]) (.nx (slots 8 [ePl pl, .int top, eT b, .int fixed, eL used]))) => ss_if (t := t) (tt.is (decide_eq_false (by omega))) (fun h => by cases h) (fun _ => hu))
  have it : EE [] (tCall (spP R_next_ones) [] E0 (tCons (tVar 0) (tCons (tVar 1) (tCons (tVar 2) (tCons (tVar 3) (tCons (tVar 4) tNil)))))) (slots 8 [ePl pl, .int top, eT b, .int fixed, eL used]) (.list ((nextN pl top b fixed used).map eTL)) (slots 8 [ePl pl, .int top, eT b, .int fixed, eL used]) :=
    ee_call (ea_5 (ee_var rfl) (ee_var rfl) (ee_var rfl) (ee_var rfl) (ee_var rfl)) ⟨pl, top, b, fixed, used, rfl, hw, by omega, h60, t0, t1, hb, by omega, rfl⟩
  generalize nextN pl top b fixed used = xs at *
  have turn : ∀ x ∈ xs, TurnD [] E (gTup K 2 (gCons (gName 5) (gCons (gName 6) gNil))) (tSeq (tAsg (tCall (spP (R_first_in d)) [] E0 (tCons (tVar 0) (tCons (tVar 1) (tCons (tVar 5) (tCons (tVar 3) (tCons (tVar 6) tNil)))))) (gName 7)) (tIfS (tTest (tOp (fun x y H Q => y = .non ∧ Q (.bl (!decide (x = .non))) H) (tVar 7) (tC .non))) (tRet (tVar 7)) tNext)) (eTL x) (slots 8 [ePl pl, .int top, eT b, .int fixed, eL used])
      (match firstIn pl top fixed m x.1 x.2 with | none => .nx (slots 8 [ePl pl, .int top, eT b, .int fixed, eL used]) | some c => .rt (eT c) [.dat (ePl pl), .dat (.int top), .dat (eT b), .dat (.int fixed), .dat (eL used), .dat (eT x.1), .dat (eL x.2), .dat (eT c)]) := fun x hx => by
    have hc := hnx x hx
    refine ⟨[.dat (ePl pl), .dat (.int top), .dat (eT b), .dat (.int fixed), .dat (eL used), .dat (eT x.1), .dat (eL x.2), .no], eg_tup2, ?_⟩
    have s1 := ss_set (T := []) (X := E) (i := 7) (ee_call (E := E0) (R := R_first_in d) (ea_5 (ee_var (ρ := [.dat (ePl pl), .dat (.int top), .dat (eT b), .dat (.int fixed), .dat (eL used), .dat (eT x.1), .dat (eL x.2), .no]) (i := 0) rfl) (ee_var (i := 1) rfl) (ee_var (i := 5) rfl) (ee_var (i := 3) rfl) (ee_var (i := 6) rfl)) hc)
    cases hf : firstIn pl top fixed m x.1 x.2 with
    | none =>
      rw [hf] at s1
      exact ss_forget (ss_seq s1 (ss_if (et_test (ee_op (ee_var rfl) ee_non re_notN)) (fun h => by cases h) (fun _ => ss_next))) (.same (.same (.same (.same (.same (.no (.no (.no .nil))))))))
    | some c =>
      rw [hf] at s1
      exact ss_seq s1 (ss_if (et_test (ee_op (ee_var rfl) ee_non re_notN)) (fun _ => ss_ret (ee_var rfl)) (fun h => by cases h))
  have loop : ∀ ys : List (List Int × List Int), (∀ y ∈ ys, y ∈ xs) → ∃ o, ForR (TurnD [] E (gTup K 2 (gCons (gName 5) (gCons (gName 6) gNil))) (tSeq (tAsg (tCall (spP (R_first_in d)) [] E0 (tCons (tVar 0) (tCons (tVar 1) (tCons (tVar 5) (tCons (tVar 3) (tCons (tVar 6) tNil)))))) (gName 7)) (tIfS (tTest (tOp (fun x y H Q => y = .non ∧ Q (.bl (!decide (x = .non))) H) (tVar 7) (tC .non))) (tRet (tVar 7)) tNext))) (ys.map eTL) (slots 8 [ePl pl, .int top, eT b, .int fixed, eL used]) o ∧
      (match ys.findSome? fun x => firstIn pl top fixed m x.1 x.2 with | none => o = .nx (slots 8 [ePl pl, .int top, eT b, .int fixed, eL used]) | some c => ∃ ρ', o = .rt (eT c) ρ') := by
    intro ys
    induction ys with
    | nil => exact fun _ => ⟨_, .nil, rfl⟩
    | cons y ys ih =>
      intro hys
      have ty := turn y (hys y List.mem_cons_self)
      rw [List.findSome?_cons]
      cases hf : firstIn pl top fixed m y.1 y.2 with
      | none =>
        rw [hf] at ty
        obtain ⟨o, h1, h2⟩ := ih fun z hz => hys z (List.mem_cons_of_mem _ hz)
        exact ⟨o, .next ty h1, h2⟩
      | some c =>
        rw [hf] at ty
        exact ⟨_, .stop ty, _, rfl⟩
  obtain ⟨o, h1, h2⟩ := loop xs fun _ h => h
  cases hf : xs.findSome? (fun x => firstIn pl top fixed m x.1 x.2) with
  | none =>
    rw [hf] at h2
    subst h2
    exact ⟨_, ss_seq (ne ss_next) (ss_seq (ss_forL it h1) (ss_ret ee_non)), rfl⟩
  | some c =>
    rw [hf] at h2
    obtain ⟨ρ', rfl⟩ := h2
    exact ⟨_, ss_seq (ne ss_next) (ss_seqR (ss_forL it h1)), rfl⟩
theorem ok_first_in (F : Fn K mg "first_in" s_first_in) (B : Bt mg) (c_next_ones : Cal P w K mg base 1 "next_ones" ["plan", "top", "begun", "fixed", "used"] (spP R_next_ones)) : Cal P w K mg base 10 "first_in" ["plan", "top", "begun", "fixed", "used"] (spP (R_first_in 7)) := by
  have c0 : Cal P w K mg base 3 "first_in" ["plan", "top", "begun", "fixed", "used"] (spP (R_first_in 0)) := cal_void F bd_first_in fun ds r ⟨_, _, _, _, _, _, _, h1, h2, _⟩ => by omega
  exact step_first_in F B c_next_ones (step_first_in F B c_next_ones (step_first_in F B c_next_ones (step_first_in F B c_next_ones (step_first_in F B c_next_ones (step_first_in F B c_next_ones (step_first_in F B c_next_ones c0 (by decide)) (by decide)) (by decide)) (by decide)) (by decide)) (by decide)) (by decide)

end
end U
namespace U
open PySem L2 PyProof.Rows DL
open Evl (Ex)
open LamX (lamS_by)
section
variable {P : Program} {w : World} {K : PySem.W.Frag} {mg : Str → Option Value} {base : Heap} {xa : Str → Addr}
abbrev s_used_numbers : Stmt := topS 25
theorem sc_used_numbers : FnScope ["plan", "begun", "found", "at", "number", "place"] ["plan", "begun"] (defScope s_used_numbers) := ⟨rfl, rfl, rfl, by decide +kernel, rfl, by decide +kernel, by decide +kernel⟩
theorem bd_used_numbers : BindsAs "used_numbers" s_used_numbers ["plan", "begun"] := fun _ _ _ _ _ _ us hl => match us, hl with | [_, _], _ => rfl

def R_used_numbers : List PyData → Res → Prop := fun ds r => ∃ (pl : Pl) (b : List Int), ds = [ePl pl, eT b] ∧ WfPl pl ∧ b.length ≤ pl.length ∧ pl.length ≤ 60 ∧ r = .ok (eL (usedN pl b))
theorem used_pre_len {pl : Pl} {b : List Int} (hw : WfPl pl) : ∀ (is : List Nat) (l : List Int), (∀ i ∈ is, i < pl.length) → (is.foldl (fun l i => l ++ diffs (plAt pl i).1 b (b.getD i 0)) l).length ≤ l.length + 20 * is.length
  | [], _, _ => by simp
  | i :: is, l, h => by
    have h1 := (hw i (h i List.mem_cons_self)).2.2.1
    have := used_pre_len (b := b) hw is (l ++ diffs (plAt pl i).1 b (b.getD i 0)) fun j hj => h j (List.mem_cons_of_mem _ hj)
    rw [List.length_append] at this
    have e : (diffs (plAt pl i).1 b (b.getD i 0)).length = (plAt pl i).1.length := by unfold diffs; rw [List.length_map]
    rw [List.foldl_cons, List.length_cons]
    omega
theorem ok_used_numbers (F : Fn K mg "used_numbers" s_used_numbers) (B : Bt mg) : Cal P w K mg base 1 "used_numbers" ["plan", "begun"] (spP R_used_numbers) :=
  calQ F sc_used_numbers bd_used_numbers (fun ds r ⟨_, _, e, _⟩ => by rw [e]; rfl) fun f cdv A outer s H E hr => by
  refine ⟨_, (pss_cons (ps_set (i := 2) sc_used_numbers.nd rfl (Or.inl rfl) (pe_lst pa_nil))
      (pss_cons (ps_for PassesOwn.never rfl (enumTK (K := K) rfl (by rfl) B.enumerate (pa_cons (pv 1) pa_nil)) (pgT (K := K) rfl rfl (pgs_cons (pg_name (i := 3) sc_used_numbers.nd rfl (Or.inl rfl)) (pgs_cons (pg_name (i := 4) sc_used_numbers.nd rfl (Or.inr rfl)) pgs_nil))) (pss_one (ps_set (i := 2) sc_used_numbers.nd rfl (Or.inl rfl) (pe_op op_cat (pv 2) (pe_lc (own := [("place", 5)]) (g := (gName 5)) (tt := tYes) rfl sc_used_numbers.nd (piL (K := K) rfl (pe_ix (ixT (K := K) rfl) (pe_ix (ixL (K := K) rfl) (pv 0) (pv 3) (fun _ _ => rfl)) pe_int (fun _ _ => rfl))) (blkOk_by (own := [("place", 5)]) (N := ["plan", "begun", "found", "at", "number", "place"]) (sc := defScope s_used_numbers) (by decide +kernel)) (fun _ _ _ _ _ => (pg_name (i := 5) sc_used_numbers.nd rfl (Or.inl rfl))) (fun _ _ _ _ _ => pts_nil) (fun _ _ _ _ _ => (pe_callB call_abs (by rfl) B.abs bb_abs (pa_cons (pe_op op_sub (pe_ix (ixT (K := K) rfl) (pv 1) (pv 5) (fun _ _ => rfl)) (pv 4)) pa_nil))))))))
      (pss_one (ps_ret (pv 2))))), fun ds r ⟨pl, b, e1, hw, hl, h60, e2⟩ => ?_⟩
  subst e1 e2
  have en : enumD (b.map PyData.int) = (List.range b.length).map fun (i : Nat) => .tuple [.int (i : Nat), .int (b.getD i 0)] := by
    unfold enumD
    rw [List.length_map]
    refine List.map_congr_left fun i hi => ?_
    have hi' := List.mem_range.mp hi
    rw [List.getD_eq_getElem?_getD, List.getElem?_map, List.getD_eq_getElem?_getD, List.getElem?_eq_getElem hi']
    rfl
  refine ⟨_, ss_seq (ss_set (el_lst ea_nil (by decide)).ee) (ss_seq (ss_forEnumT (ea_1 (ee_var rfl)) (o := .nx [.dat (ePl pl), .dat (eT b), .dat (eL (usedN pl b)), .no, .no, .no]) ?_) (ss_ret (ee_var rfl))), rfl⟩
  rw [en]
  refine forR_pre (fun (i : Nat) => PyData.tuple [.int (i : Nat), .int (b.getD i 0)]) (fun pre => [.dat (ePl pl), .dat (eT b), .dat (eL (pre.foldl (fun l i => l ++ diffs (plAt pl i).1 b (b.getD i 0)) [])), .no, .no, .no]) (List.range b.length) fun pr i post e => ?_
  have hall : ∀ x ∈ pr ++ i :: post, x < b.length := fun x hx => by rw [← e] at hx; exact List.mem_range.mp hx
  have hi := hall i (by simp)
  have hlen := congrArg List.length e
  rw [List.length_range, List.length_append, List.length_cons] at hlen
  have hpl := used_pre_len (b := b) hw pr [] fun x hx => by have := hall x (by simp [hx]); omega
  obtain ⟨w1, _, w3, _⟩ := hw i (by omega)
  rw [List.foldl_append]
  show TurnD [] E _ _ _ _ (.nx [.dat (ePl pl), .dat (eT b), .dat (eL (pr.foldl (fun l i => l ++ diffs (plAt pl i).1 b (b.getD i 0)) [] ++ diffs (plAt pl i).1 b (b.getD i 0))), .no, .no, .no])
  refine ⟨_, eg_tup2, ss_forget (ss_set (el_op (es := (pr.foldl (fun l i => l ++ diffs (plAt pl i).1 b (b.getD i 0)) [] ++ diffs (plAt pl i).1 b (b.getD i 0)).map PyData.int) (ee_var rfl) (el_lcLp (es := (diffs (plAt pl i).1 b (b.getD i 0)).map PyData.int) (ee_op (ee_op (ee_var rfl) (ee_var rfl) (re_ixL (plAt_ok (by omega)))) ee_int (re_ixT (d := eL (plAt pl i).1) rfl)) (lcr_ints PyData.int (fun p => iabs (at0 b p - b.getD i 0)) _ fun p hp => lc1m (by intro _ _ h; cases h) (ee_cb (ea_1 (ee_op (ee_op (ee_var rfl) (ee_var rfl) (re_ixT (at0_ok (w1 p hp).1 (by have := (w1 p hp).2; omega)))) (ee_var rfl) re_sub)) rb_abs)) (by unfold diffs; rw [List.length_map, List.length_map]; omega)).ee ?_).ee) ?_⟩
  · rw [List.map_append]
    refine rel_cat ?_
    have ld : (diffs (plAt pl i).1 b (b.getD i 0)).length = (plAt pl i).1.length := by unfold diffs; rw [List.length_map]
    rw [List.length_map, List.length_map, ld]
    rw [List.length_nil] at hpl
    omega
  · exact .same (.same (.same (.no (.no (.no .nil)))))

end
end U
namespace U
open PySem L2 PyProof.Rows DL
open Evl (Ex)
open LamX (lamS_by)
section
variable {P : Program} {w : World} {K : PySem.W.Frag} {mg : Str → Option Value} {base : Heap} {xa : Str → Addr}
abbrev s_first_from : Stmt := topS 28
theorem sc_first_from : FnScope ["web", "top", "begun", "plan"] ["web", "top", "begun"] (defScope s_first_from) := ⟨rfl, rfl, rfl, by decide +kernel, rfl, by decide +kernel, by decide +kernel⟩
theorem bd_first_from : BindsAs "first_from" s_first_from ["web", "top", "begun"] := fun _ _ _ _ _ _ us hl => match us, hl with | [_, _, _], _ => rfl

def R_first_from : List PyData → Res → Prop := fun ds r => ∃ (v : Wb) (top : Int) (b : List Int), ds = [eW v, .int top, eT b] ∧ GoodW v ∧ v.2.length ≤ 20 ∧ 0 ≤ top ∧ top ≤ 100 ∧ (b.length : Int) ≤ v.1 ∧ (∀ n ∈ b, n ≤ 100) ∧ r = .ok (optD (firstFrom v top b))
theorem planN_len (v : Wb) : (planN v).length = v.1.toNat := by unfold planN; rw [List.length_map, ri_len]
theorem planN_at (v : Wb) {i : Nat} (h : i < v.1.toNat) : plAt (planN v) i = planAt v i := by
  unfold plAt planN ri
  rw [List.getD_eq_getElem?_getD, List.getElem?_map, List.getElem?_map, List.getElem?_range h]
  show planAt v (0 + (i : Int)) = _
  rw [Int.zero_add]
theorem near_in {v : Wb} (g : GoodW v) {p x : Int} (h : x ∈ nearN v p) : 0 ≤ x ∧ x < v.1 ∧ x ≠ p := by
  unfold nearN at h
  obtain ⟨q, hq, rfl⟩ := List.mem_map.mp h
  obtain ⟨h1, h2⟩ := List.mem_filter.mp hq
  have := g.line q h1
  have h2 : p = q.1 ∨ p = q.2 := by simpa using h2
  omega
theorem planN_wf {v : Wb} (g : GoodW v) (hl : v.2.length ≤ 20) : WfPl (planN v) := fun i hi => by
  rw [planN_len] at hi
  rw [planN_at v hi]
  have h6 := g.hi
  have lf := List.length_filter_le (fun o => decide (o < (i : Int))) (nearN v i)
  have ln := near_len v i
  have lr := List.length_filter_le (fun o => twinN v o i) (ri 0 ((i : Int)).toNat)
  rw [ri_len] at lr
  refine ⟨fun x hx => ?_, fun x hx => ?_, by show (List.filter _ _).length ≤ 20; omega, by show (List.filter _ _).length ≤ 20; omega⟩
  · obtain ⟨h1, h2⟩ := List.mem_filter.mp hx
    exact ⟨(near_in g h1).1, of_decide_eq_true h2⟩
  · have := mem_ri.mp (List.mem_filter.mp hx).1
    omega
theorem ok_first_from (F : Fn K mg "first_from" s_first_from) (B : Bt mg) (c_plan_of : Cal P w K mg base 3 "plan_of" ["web"] (spP R_plan_of)) (c_first_in : Cal P w K mg base 10 "first_in" ["plan", "top", "begun", "fixed", "used"] (spP (R_first_in 7))) (c_used_numbers : Cal P w K mg base 1 "used_numbers" ["plan", "begun"] (spP R_used_numbers)) : Cal P w K mg base 11 "first_from" ["web", "top", "begun"] (spP R_first_from) :=
  calQ F sc_first_from bd_first_from (fun ds r ⟨_, _, _, e, _⟩ => by rw [e]; rfl) fun f cdv A outer s H E hr => by
  refine ⟨_, (pss_cons (ps_set (i := 3) sc_first_from.nd rfl (Or.inl rfl) (pe_cal c_plan_of (hr.mono (by decide)) (by rfl) (pa_cons (pv 0) pa_nil)))
      (pss_one (ps_ret (pe_cal c_first_in (hr.mono (by decide)) (by rfl) (pa_cons (pv 3) (pa_cons (pv 1) (pa_cons (pv 2) (pa_cons (pe_callB (lenK (K := K) rfl) (by rfl) B.len bb_len (pa_cons (pv 2) pa_nil)) (pa_cons (pe_cal c_used_numbers (hr.mono (by decide)) (by rfl) (pa_cons (pv 3) (pa_cons (pv 2) pa_nil))) pa_nil))))))))), fun ds r ⟨v, top, b, e1, g, hl, t0, t1, hb, hn, e2⟩ => ?_⟩
  subst e1 e2
  have lo := g.lo
  have hi := g.hi
  have hw := planN_wf g hl
  have hpl := planN_len v
  have hul := used_pre_len (b := b) hw (List.range b.length) [] fun i hi' => by have := List.mem_range.mp hi'; omega
  rw [List.length_range, List.length_nil] at hul
  have hlen := ee_cb (T := []) (r := rLenQ K) (ea_1 (ee_var (ρ := [.dat (eW v), .dat (.int top), .dat (eT b), .dat (ePl (planN v))]) (i := 2) rfl)) rb_lenT
  rw [List.length_map] at hlen
  refine ⟨_, ss_seq (ss_set (ee_call (ea_1 (ee_var rfl)) ⟨v, rfl, by omega, by omega, by omega, rfl⟩)) (ss_ret (ee_call (ea_5 (ee_var rfl) (ee_var rfl) (ee_var rfl) hlen (ee_call (ea_2 (ee_var rfl) (ee_var rfl)) ⟨planN v, b, rfl, hw, by omega, by omega, rfl⟩)) ⟨planN v, top, b, b.length, usedN (planN v) b, rfl, hw, by omega, by omega, by omega, t0, t1, hn, by unfold usedN; omega, by unfold firstFrom; rw [hpl]⟩)), rfl⟩

end
end U
namespace U
open PySem L2 PyProof.Rows DL
open Evl (Ex)
open LamX (lamS_by)
section
variable {P : Program} {w : World} {K : PySem.W.Frag} {mg : Str → Option Value} {base : Heap} {xa : Str → Addr}
abbrev s_least_top : Stmt := topS 42
theorem sc_least_top : FnScope ["web", "top"] ["web"] (defScope s_least_top) := ⟨rfl, rfl, rfl, by decide +kernel, rfl, by decide +kernel, by decide +kernel⟩
theorem bd_least_top : BindsAs "least_top" s_least_top ["web"] := fun _ _ _ _ _ _ us hl => match us, hl with | [_], _ => rfl

def leastR (xa : XA) (d : PyData) : Res := if webB d = true then .ok (.int (leastN (toW d))) else .ex (xa "InvalidWeb")
def R_least_top (xa : XA) : List PyData → Res → Prop := fun ds r => ∃ d, ds = [d] ∧ smallW d ∧ r = leastR xa d
theorem ok_least_top (F : Fn K mg "least_top" s_least_top) (B : Bt mg) (c_need_web : Cal P w K mg base 4 "need_web" ["web"] (spP (R_need_web xa))) (c_top_of : Cal P w K mg base 1 "top_of" ["web"] (spP R_top_of)) (c_first_from : Cal P w K mg base 11 "first_from" ["web", "top", "begun"] (spP R_first_from)) : Cal P w K mg base 12 "least_top" ["web"] (spP (R_least_top xa)) :=
  calP F sc_least_top bd_least_top (fun ds r ⟨_, e, _⟩ => by rw [e]; rfl) fun f cdv A outer s H E hr => by
  refine ⟨_, (pss_cons (ps_expr (pe_calX (E := E) c_need_web (hr.mono (by decide)) (by rfl) (takesN rfl rfl rfl rfl) (pa_cons (pv 0) pa_nil)))
      (PSs.nox (pss_cons (ps_set (i := 1) sc_least_top.nd rfl (Or.inl rfl) (pe_callB (call_max2 rfl) (by rfl) B.max bb_max (pa_cons (pe_cal c_top_of (hr.mono (by decide)) (by rfl) (pa_cons (pv 0) pa_nil)) (pa_cons (pe_op op_sub (pe_ix (ixT (K := K) rfl) (pv 0) pe_int (fun _ _ => rfl)) pe_int) pa_nil))))
      (pss_cons (ps_while PassesOwn.never (pt_cmpR op_isN (pe_cal c_first_from (hr.mono (by decide)) (by rfl) (pa_cons (pv 0) (pa_cons (pv 1) (pa_cons (pe_tup pa_nil) pa_nil)))) pe_non (nomark _)) (pss_one (ps_aug (i := 1) sc_least_top.nd rfl (Or.inl rfl) pe_int ip_add)))
      (pss_one (ps_ret (pv 1))))))), fun ds r ⟨d, e1, hsm, e2⟩ => ?_⟩
  subst e1 e2
  unfold leastR
  by_cases h : webB d = true
  · rw [if_pos h]
    obtain ⟨v, rfl, ok⟩ := webB_iff.mp h
    have g := good_of ok
    have lo := g.lo
    have hi := g.hi
    have h15 := lines15 g
    rw [toW_eW]
    have l := least_ok g
    have s0 : 0 ≤ startT v := by unfold startT topW; omega
    have first := ss_drop (X := E) (ee_call (T := []) (E := E) (R := R_need_web xa) (ea_1 (ee_var (ρ := slots 2 [eW v]) (i := 0) rfl)) ⟨eW v, rfl, hsm, by unfold needWeb; rw [if_pos h]⟩)
    have tst : ∀ t : Int, 0 ≤ t → t ≤ 100 → ET [] (tTest (tOp (fun x y H Q => y = .non ∧ Q (.bl (decide (x = .non))) H) (tCall (spP R_first_from) [] E0 (tCons (tVar 0) (tCons (tVar 1) (tCons (tTup tNil) tNil)))) (tC .non))) [.dat (eW v), .dat (.int t)] (firstFrom v t []).isNone [.dat (eW v), .dat (.int t)] := fun t t0 t1 => by
      rw [← isNone_optD]
      exact et_test (ee_op (ee_call (ea_3 (ee_var rfl) (ee_var rfl) (ee_tup ea_nil (by simp))) ⟨v, t, [], rfl, g, by omega, t0, t1, by simp; omega, (fun _ h => by cases h), rfl⟩) ee_non re_isN)
    have lo' := l.lo
    have hi' := l.hi
    have wh := ss_while (T := []) (X := E0) (t := tAug 1 (tC (.int 1)) (ipI fun i j => i + j)) (st := fun i => [.dat (eW v), .dat (.int (startT v + (i : Nat)))]) (k := (leastN v - startT v).toNat) (fun i hi => ⟨(tst (startT v + (i : Nat)) (by omega) (by omega)).is (l.step _ (by omega) (by omega)), ss_is (ss_aug rfl ee_int) (by show Out.nx [.dat (eW v), .dat (.int (startT v + (i : Nat) + 1))] = _; rw [show startT v + (i : Nat) + 1 = startT v + ((i + 1 : Nat) : Int) by omega])⟩) ((tst _ (by omega) (by omega)).is (by rw [show startT v + ((leastN v - startT v).toNat : Nat) = leastN v by omega]; exact l.has))
    simp only [show startT v + ((leastN v - startT v).toNat : Nat) = leastN v by omega, show startT v + ((0 : Nat) : Int) = startT v by omega] at wh
    have asg : SS [] E0 _ (slots 2 [eW v]) (.nx [.dat (eW v), .dat (.int (startT v))]) := ss_set (i := 1) (ee_cb (T := []) (ea_2 (ee_call (E := E0) (R := R_top_of) (ea_1 (ee_var (ρ := slots 2 [eW v]) (i := 0) rfl)) ⟨v, rfl, rfl⟩) (ee_op (ee_op (ee_var (i := 0) rfl) (ee_int (i := 0)) (re_ixT (K := K) (d := .int v.1) rfl)) (ee_int (i := 1)) re_sub)) rb_max2)
    exact ⟨_, ss_seq first (ss_seq (fun F W D B H σ => asg F W D B H σ) (ss_seq (fun F W D B H σ => wh F W D B H σ) (ss_ret (ee_var rfl)))), rfl⟩
  · rw [if_neg h]
    exact ⟨_, ss_seqX (ss_callX (ea_1 (ee_var rfl)) ⟨d, rfl, hsm, by unfold needWeb; rw [if_neg h]⟩), rfl⟩

end
end U
namespace U
open PySem L2 PyProof.Rows DL
open Evl (Ex)
open LamX (lamS_by)
section
variable {P : Program} {w : World} {K : PySem.W.Frag} {mg : Str → Option Value} {base : Heap} {xa : Str → Addr}
abbrev s_need_few : Stmt := topS 32
theorem sc_need_few : FnScope ["web"] ["web"] (defScope s_need_few) := ⟨rfl, rfl, rfl, by decide +kernel, rfl, by decide +kernel, by decide +kernel⟩
theorem bd_need_few : BindsAs "need_few" s_need_few ["web"] := fun _ _ _ _ _ _ us hl => match us, hl with | [_], _ => rfl

def R_need_few (xa : XA) : List PyData → Res → Prop := fun ds r => ∃ (v : Wb), ds = [eW v] ∧ r = (if 9 < topW v then .ex (xa "TooMany") else .ok .none)
theorem ok_need_few (F : Fn K mg "need_few" s_need_few) (B : Bt mg) (x_TooMany : Xc K mg "TooMany" (xa "TooMany")) (c_top_of : Cal P w K mg base 1 "top_of" ["web"] (spP R_top_of)) : Cal P w K mg base 2 "need_few" ["web"] (spP (R_need_few xa)) :=
  calP F sc_need_few bd_need_few (fun ds r ⟨_, e, _⟩ => by rw [e]; rfl) fun f cdv A outer s H E hr => by
  refine ⟨_, (pss_one (ps_if (pt_cmpR op_gt (pe_cal c_top_of (hr.mono (by decide)) (by rfl) (pa_cons (pv 0) pa_nil)) pe_int (nomark _)) (pss_one (ps_raiseC (E := E) x_TooMany rfl (by rfl) (takesN rfl rfl rfl rfl))) pss_nil)), fun ds r ⟨v, e1, e2⟩ => ?_⟩
  subst e1 e2
  have t := et_test (T := []) (ee_op (ee_call (E := E0) (R := R_top_of) (ea_1 (ee_var (ρ := slots 1 [eW v]) (i := 0) rfl)) ⟨v, rfl, rfl⟩) (ee_int (i := 9)) re_gt)
  by_cases h : 9 < topW v
  · rw [if_pos h]
    rw [decide_eq_true h] at t
    exact ⟨_, ss_if t (fun _ => ss_raiseC) (fun h => by cases h), rfl⟩
  · rw [if_neg h]
    rw [decide_eq_false h] at t
    exact ⟨_, ss_if t (fun h => by cases h) (fun _ => ss_next), rfl⟩

end
end U
namespace U
open PySem L2 PyProof.Rows DL
open Evl (Ex)
open LamX (lamS_by)
section
variable {P : Program} {w : World} {K : PySem.W.Frag} {mg : Str → Option Value} {base : Heap} {xa : Str → Addr}
abbrev s_all_from : Stmt := topS 29
theorem sc_all_from : FnScope ["web", "top", "plan", "level", "turn", "later", "begun", "used"] ["web", "top"] (defScope s_all_from) := ⟨rfl, rfl, rfl, by decide +kernel, rfl, by decide +kernel, by decide +kernel⟩
theorem bd_all_from : BindsAs "all_from" s_all_from ["web", "top"] := fun _ _ _ _ _ _ us hl => match us, hl with | [_, _], _ => rfl

def R_all_from : List PyData → Res → Prop := fun ds r => ∃ (v : Wb) (top : Int), ds = [eW v, .int top] ∧ GoodW v ∧ 0 ≤ top ∧ top ≤ 100 ∧ (top + 1).toNat ^ v.1.toNat ≤ 90000 ∧ r = .ok (eTs (fromN v top))
theorem ok_all_from (F : Fn K mg "all_from" s_all_from) (B : Bt mg) (c_plan_of : Cal P w K mg base 3 "plan_of" ["web"] (spP R_plan_of)) (c_next_ones : Cal P w K mg base 1 "next_ones" ["plan", "top", "begun", "fixed", "used"] (spP R_next_ones)) : Cal P w K mg base 4 "all_from" ["web", "top"] (spP R_all_from) :=
  calQ F sc_all_from bd_all_from (fun ds r ⟨_, _, e, _⟩ => by rw [e]; rfl) fun f cdv A outer s H E hr => by
  refine ⟨_, (pss_cons (ps_par (i := 2) (j := 3) (by rfl) sc_all_from.nd rfl rfl (by decide) rfl rfl (pa_cons (pe_cal c_plan_of (hr.mono (by decide)) (by rfl) (pa_cons (pv 0) pa_nil)) (pa_cons (pe_lst (pa_cons (pe_tup (pa_cons (pe_tup pa_nil) (pa_cons (pe_lst pa_nil) pa_nil))) pa_nil)) pa_nil)) (by rfl))
      (pss_cons (ps_for PassesOwn.never rfl (pi_range1 (by rfl) B.range (pa_cons (pe_ix (ixT (K := K) rfl) (pv 0) pe_int (fun _ _ => rfl)) pa_nil)) (pg_name (i := 4) sc_all_from.nd rfl (Or.inl rfl)) (pss_cons (ps_set (i := 5) sc_all_from.nd rfl (Or.inl rfl) (pe_lst pa_nil))
      (pss_cons (ps_for PassesOwn.never rfl (piL (K := K) rfl (pv 3)) (pgT (K := K) rfl rfl (pgs_cons (pg_name (i := 6) sc_all_from.nd rfl (Or.inl rfl)) (pgs_cons (pg_name (i := 7) sc_all_from.nd rfl (Or.inl rfl)) pgs_nil))) (pss_one (ps_set (i := 5) sc_all_from.nd rfl (Or.inl rfl) (pe_op op_cat (pv 5) (pe_cal c_next_ones (hr.mono (by decide)) (by rfl) (pa_cons (pv 2) (pa_cons (pv 1) (pa_cons (pv 6) (pa_cons pe_int (pa_cons (pv 7) pa_nil))))))))))
      (pss_one (ps_set (i := 3) sc_all_from.nd rfl (Or.inl rfl) (pv 5))))))
      (pss_one (ps_ret (pe_lc (own := [("begun", 6), ("used", 7)]) (g := (gTup K 2 (gCons (gName 6) (gCons (gName 7) gNil)))) (tt := tYes) rfl sc_all_from.nd (piL (K := K) rfl (pv 3)) (blkOk_by (own := [("begun", 6), ("used", 7)]) (N := ["web", "top", "plan", "level", "turn", "later", "begun", "used"]) (sc := defScope s_all_from) (by decide +kernel)) (fun _ _ _ _ _ => (pgT (K := K) rfl rfl (pgs_cons (pg_name (i := 6) sc_all_from.nd rfl (Or.inl rfl)) (pgs_cons (pg_name (i := 7) sc_all_from.nd rfl (Or.inl rfl)) pgs_nil)))) (fun _ _ _ _ _ => pts_nil) (fun _ _ _ _ _ => (pv 6))))))), fun ds r ⟨v, top, e1, g, t0, t1, hz, e2⟩ => ?_⟩
  subst e1 e2
  have lo := g.lo
  have hi := g.hi
  have h15 := lines15 g
  have hpl := planN_len' v
  have hw := planN_wf' g
  have hsz := fromL_size v top (ri 0 v.1.toNat) [([], [])]
  rw [ri_len, List.length_singleton, Nat.one_mul] at hsz
  refine ⟨_, ss_seq (ss_par (ea_2 (ee_call (ea_1 (ee_var rfl)) ⟨v, rfl, by omega, by omega, by omega, rfl⟩) (el_lst (ea_1 (ee_tup (ea_2 (ee_tup ea_nil (by simp)) (el_lst ea_nil (by simp)).ee) (by simp))) (by simp)).ee)) (ss_seq (ss_forR1i (n := v.1) (ea_1 (ee_w0 rfl)) (by omega) (o := .nx [.dat (eW v), .dat (.int top), .dat (ePl (planN v)), .dat (.list ((fromL v top (ri 0 v.1.toNat)).map eTL)), .no, .no, .no, .no]) ?_) (ss_ret (el_lcLp (es := (fromN v top).map eT) (ee_var rfl) ?_ (by unfold fromN; rw [List.length_map, List.length_map]; unfold fromL; omega)).ee)), rfl⟩
  · refine forR_pre PyData.int (fun pre => [.dat (eW v), .dat (.int top), .dat (ePl (planN v)), .dat (.list ((fromL v top pre).map eTL)), .no, .no, .no, .no]) (ri 0 v.1.toNat) fun pr p post e => ?_
    have hlen := congrArg List.length e
    rw [ri_len, List.length_append, List.length_cons] at hlen
    have hpr : pr = ri 0 pr.length := by
      rw [← ri_take 0 v.1.toNat pr.length (by omega), e]; simp
    have hok := fromL_ok g t1 pr.length (by omega)
    rw [← hpr] at hok
    have hl1 := fromL_size v top pr [([], [])]
    rw [List.length_singleton, Nat.one_mul] at hl1
    have hbig : (fromL v top pr).length * (top + 1).toNat ≤ 90000 := by
      refine Nat.le_trans (Nat.mul_le_mul_right _ hl1) ?_
      rw [← Nat.pow_succ]
      exact Nat.le_trans (Nat.pow_le_pow_right (by omega) (by omega)) hz
    rw [fromL_snoc]
    generalize fromL v top pr = fs at *
    refine ⟨_, eg_name, ss_seq (ss_set (el_lst ea_nil (by simp)).ee) (ss_seq (ρ1 := [.dat (eW v), .dat (.int top), .dat (ePl (planN v)), .dat (.list (fs.map eTL)), .dat (.int p), .dat (.list ((fromStep v top fs).map eTL)), .no, .no]) (ss_forL (ee_var rfl) (forR_pre eTL (fun pre => [.dat (eW v), .dat (.int top), .dat (ePl (planN v)), .dat (.list (fs.map eTL)), .dat (.int p), .dat (.list ((fromStep v top pre).map eTL)), .no, .no]) fs fun pr2 x post2 e2 => ?_)) (ss_forget (ss_set (ee_var rfl)) (.same (.same (.same (.same (.no (.no (.no (.no .nil))))))))))⟩
    have hl2 := congrArg List.length e2
    rw [List.length_append, List.length_cons] at hl2
    obtain ⟨x1, x2, x3⟩ := hok x (by rw [e2]; simp)
    have hsl := fromStep_len v top pr2
    have h90 : (pr2.length + 1) * (top + 1).toNat ≤ 90000 := Nat.le_trans (Nat.mul_le_mul_right _ (by omega)) hbig
    rw [Nat.add_mul, Nat.one_mul] at h90
    have est : fromStep v top (pr2 ++ [x]) = fromStep v top pr2 ++ nextN (planN v) top x.1 0 x.2 := by unfold fromStep; rw [List.foldl_append]; rfl
    rw [est]
    have hnl := next_len (pl := planN v) (top := top) (fixed := 0) (b := x.1) (used := x.2)
    generalize fromStep v top pr2 = ls at *
    exact ⟨_, eg_tup2, ss_forget (ss_set (el_op (es := (ls ++ nextN (planN v) top x.1 0 x.2).map eTL) (ee_var rfl) (ee_call (ea_5 (ee_var rfl) (ee_var rfl) (ee_var rfl) ee_int (ee_var rfl)) ⟨planN v, top, x.1, 0, x.2, rfl, hw, by omega, by omega, t0, t1, x2, by omega, rfl⟩) (by rw [List.map_append]; exact rel_cat (by rw [List.length_map, List.length_map]; omega))).ee) (.same (.same (.same (.same (.same (.same (.no (.no .nil))))))))⟩
  · unfold fromN
    rw [List.map_map]
    exact lcr_map eTL (fun x => eT x.1) _ fun x _ => lc2m (by decide) (by intro _ _ h; cases h) (by intro _ _ h; cases h) (ee_var rfl)

end
end U
namespace U
open PySem L2 PyProof.Rows DL
open Evl (Ex)
open LamX (lamS_by)
section
variable {P : Program} {w : World} {K : PySem.W.Frag} {mg : Str → Option Value} {base : Heap} {xa : Str → Addr}
abbrev s_orders_of_twins : Stmt := topS 31
theorem sc_orders_of_twins : FnScope ["web", "found", "place", "at"] ["web"] (defScope s_orders_of_twins) := ⟨rfl, rfl, rfl, by decide +kernel, rfl, by decide +kernel, by decide +kernel⟩
theorem bd_orders_of_twins : BindsAs "orders_of_twins" s_orders_of_twins ["web"] := fun _ _ _ _ _ _ us hl => match us, hl with | [_], _ => rfl

def R_orders_of_twins : List PyData → Res → Prop := fun ds r => ∃ (v : Wb), ds = [eW v] ∧ GoodW v ∧ r = .ok (.int (ordN v (ri 0 v.1.toNat)))
theorem ok_orders_of_twins (F : Fn K mg "orders_of_twins" s_orders_of_twins) (B : Bt mg) (c_are_twins : Cal P w K mg base 2 "are_twins" ["web", "one", "other"] (spP R_are_twins)) : Cal P w K mg base 3 "orders_of_twins" ["web"] (spP R_orders_of_twins) :=
  calQ F sc_orders_of_twins bd_orders_of_twins (fun ds r ⟨_, e, _⟩ => by rw [e]; rfl) fun f cdv A outer s H E hr => by
  refine ⟨_, (pss_cons (ps_set (i := 1) sc_orders_of_twins.nd rfl (Or.inl rfl) pe_int)
      (pss_cons (ps_for PassesOwn.never rfl (pi_range1 (by rfl) B.range (pa_cons (pe_ix (ixT (K := K) rfl) (pv 0) pe_int (fun _ _ => rfl)) pa_nil)) (pg_name (i := 2) sc_orders_of_twins.nd rfl (Or.inr rfl)) (pss_one (ps_set (i := 1) sc_orders_of_twins.nd rfl (Or.inl rfl) (pe_op op_mul (pv 1) (pe_op op_add pe_int (pe_callB (lenK (K := K) rfl) (by rfl) B.len bb_len (pa_cons (pe_lc (own := [("at", 3)]) (g := (gName 3)) rfl sc_orders_of_twins.nd (pi_range1 (by rfl) B.range (pa_cons (pv 2) pa_nil)) (blkOk_by (own := [("at", 3)]) (N := ["web", "found", "place", "at"]) (sc := defScope s_orders_of_twins) (by decide +kernel)) (fun _ _ _ _ _ => (pg_name (i := 3) sc_orders_of_twins.nd rfl (Or.inl rfl))) (fun _ _ _ _ _ => (pts_one (pt_val (pe_cal c_are_twins (hr.mono (by decide)) (by rfl) (pa_cons (pv 0) (pa_cons (pv 3) (pa_cons (pv 2) pa_nil))))))) (fun _ _ _ _ _ => (pv 3))) pa_nil)))))))
      (pss_one (ps_ret (pv 1))))), fun ds r ⟨v, e1, g, e2⟩ => ?_⟩
  subst e1 e2
  have lo := g.lo
  have hi := g.hi
  have h15 := lines15 g
  refine ⟨_, ss_seq (ss_set ee_int) (ss_seq (ss_forR1i (n := v.1) (ea_1 (ee_w0 rfl)) (by omega) (o := .nx [.dat (eW v), .dat (.int (ordN v (ri 0 v.1.toNat))), .no, .no]) (forR_pre PyData.int (fun pre => [.dat (eW v), .dat (.int (ordN v pre)), .no, .no]) (ri 0 v.1.toNat) fun pr p post e => ?_)) (ss_ret (ee_var rfl))), rfl⟩
  have hp := mem_ri.mp (show p ∈ ri 0 v.1.toNat by rw [e]; simp)
  have htl : (twB v p).length ≤ 6 := by
    unfold twB
    have := List.length_filter_le (fun t => twinN v t p) (ri 0 p.toNat)
    rw [ri_len] at this
    omega
  rw [ord_snoc]
  refine ⟨_, eg_name, ss_forget (ss_set (ee_op (ee_var rfl) (ee_op ee_int (ee_lenL (enc := PyData.int) (el_lcR1p (n := p) (es := (twB v p).map PyData.int) (ea_1 (ee_var rfl)) (by omega) (lcr_filter PyData.int (fun t => twinN v t p) PyData.int (ri 0 p.toNat) fun t _ => lc1 (by intro _ _ h; cases h) (et_B (ee_call (ea_3 (ee_var rfl) (ee_var rfl) (ee_var rfl)) ⟨v, t, p, rfl, by omega, rfl⟩)) (fun _ => ee_var rfl)) (by rw [List.length_map]; omega)).ee) re_add) (re_mulR (by omega)))) (.same (.same (.no (.no .nil))))⟩

end
end U
namespace U
open PySem L2 PyProof.Rows DL
open Evl (Ex)
open LamX (lamS_by)
section
variable {P : Program} {w : World} {K : PySem.W.Frag} {mg : Str → Option Value} {base : Heap} {xa : Str → Addr}
abbrev s_count_good : Stmt := topS 33
theorem sc_count_good : FnScope ["web"] ["web"] (defScope s_count_good) := ⟨rfl, rfl, rfl, by decide +kernel, rfl, by decide +kernel, by decide +kernel⟩
theorem bd_count_good : BindsAs "count_good" s_count_good ["web"] := fun _ _ _ _ _ _ us hl => match us, hl with | [_], _ => rfl

def countR (xa : XA) (d : PyData) : Res := if webB d = true then (if 9 < topW (toW d) then .ex (xa "TooMany") else .ok (.int ((allN (toW d) (topW (toW d))).length : Int))) else .ex (xa "InvalidWeb")
def R_count_good (xa : XA) : List PyData → Res → Prop := fun ds r => ∃ d, ds = [d] ∧ smallW d ∧ (webB d = true → topW (toW d) ≤ 9 → (toW d).1 ≤ 5 ∧ topW (toW d) ≤ 6) ∧ r = countR xa d
theorem ok_count_good (F : Fn K mg "count_good" s_count_good) (B : Bt mg) (c_need_web : Cal P w K mg base 4 "need_web" ["web"] (spP (R_need_web xa))) (c_need_few : Cal P w K mg base 2 "need_few" ["web"] (spP (R_need_few xa))) (c_all_from : Cal P w K mg base 4 "all_from" ["web", "top"] (spP R_all_from)) (c_top_of : Cal P w K mg base 1 "top_of" ["web"] (spP R_top_of)) (c_orders_of_twins : Cal P w K mg base 3 "orders_of_twins" ["web"] (spP R_orders_of_twins)) : Cal P w K mg base 5 "count_good" ["web"] (spP (R_count_good xa)) :=
  calP F sc_count_good bd_count_good (fun ds r ⟨_, e, _⟩ => by rw [e]; rfl) fun f cdv A outer s H E hr => by
  refine ⟨_, (pss_cons (ps_expr (pe_calX (E := E) c_need_web (hr.mono (by decide)) (by rfl) (takesN rfl rfl rfl rfl) (pa_cons (pv 0) pa_nil)))
      (pss_cons (ps_expr (pe_calX (E := E) c_need_few (hr.mono (by decide)) (by rfl) (takesN rfl rfl rfl rfl) (pa_cons (pv 0) pa_nil)))
      (PSs.nox (pss_one (ps_ret (pe_op op_mul (pe_callB (lenK (K := K) rfl) (by rfl) B.len bb_len (pa_cons (pe_cal c_all_from (hr.mono (by decide)) (by rfl) (pa_cons (pv 0) (pa_cons (pe_cal c_top_of (hr.mono (by decide)) (by rfl) (pa_cons (pv 0) pa_nil)) pa_nil))) pa_nil)) (pe_cal c_orders_of_twins (hr.mono (by decide)) (by rfl) (pa_cons (pv 0) pa_nil)))))))), fun ds r ⟨d, e1, hsm, hs, e2⟩ => ?_⟩
  subst e1 e2
  unfold countR
  by_cases h : webB d = true
  · rw [if_pos h]
    have hs := hs h
    obtain ⟨v, rfl, ok⟩ := webB_iff.mp h
    have g := good_of ok
    rw [toW_eW] at hs ⊢
    have first := ss_drop (X := E) (ee_call (T := []) (E := E) (R := R_need_web xa) (ea_1 (ee_var (ρ := slots 1 [eW v]) (i := 0) rfl)) ⟨eW v, rfl, hsm, by unfold needWeb; rw [if_pos h]⟩)
    by_cases h9 : 9 < topW v
    · rw [if_pos h9]
      exact ⟨_, ss_seq first (ss_seqX (ss_callX (ea_1 (ee_var rfl)) ⟨v, rfl, by rw [if_pos h9]⟩)), rfl⟩
    · rw [if_neg h9]
      obtain ⟨s5, s6⟩ := hs (by omega)
      have t0 : 0 ≤ topW v := by unfold topW; omega
      have hlen : ((fromN v (topW v)).length : Int) ≤ 90000 := by
        have := fromL_size v (topW v) (ri 0 v.1.toNat) [([], [])]
        rw [ri_len, List.length_singleton, Nat.one_mul] at this
        have hp := pow_small (v := v) (top := topW v) s5 (by omega)
        unfold fromN
        rw [List.length_map]
        unfold fromL
        omega
      have second := ss_drop (X := E) (ee_call (T := []) (E := E) (R := R_need_few xa) (ea_1 (ee_var (ρ := slots 1 [eW v]) (i := 0) rfl)) ⟨v, rfl, by rw [if_neg h9]⟩)
      rw [← count_is g (topW v)]
      exact ⟨_, ss_seq first (ss_seq second (ss_ret (ee_op (ee_lenL (enc := eT) (ee_call (ea_2 (ee_var rfl) (ee_call (ea_1 (ee_var rfl)) ⟨v, rfl, rfl⟩)) ⟨v, topW v, rfl, g, t0, by omega, pow_small s5 (by omega), rfl⟩)) (ee_call (ea_1 (ee_var rfl)) ⟨v, rfl, g, rfl⟩) (re_mulL (by omega))))), rfl⟩
  · rw [if_neg h]
    exact ⟨_, ss_seqX (ss_callX (ea_1 (ee_var rfl)) ⟨d, rfl, hsm, by unfold needWeb; rw [if_neg h]⟩), rfl⟩

end
end U
namespace U
open PySem L2 DL
def evenN (w : Wb) : Bool := ((ri 0 w.1.toNat).map fun p => decide (((nearN w p).length : Int) % 2 = 0)).all id
def barN (w : Wb) : Bool := evenN w && [1, 2].contains (topW w % 4)
theorem evenN_iff {w : Wb} : evenN w = true ↔ ∀ p, 0 ≤ p → p < w.1 → (w.2.filter fun q => [q.1, q.2].contains p).length % 2 = 0 := by
  unfold evenN
  rw [List.all_map, List.all_eq_true]
  constructor
  · intro h p h0 h1
    have := h p (mem_ri.mpr (by omega))
    have : ((nearN w p).length : Int) % 2 = 0 := by simpa using this
    unfold nearN at this
    rw [List.length_map] at this
    omega
  · intro h p hp
    have hp := mem_ri.mp hp
    have := h p (by omega) (by omega)
    show decide _ = true
    unfold nearN
    rw [List.length_map]
    exact decide_eq_true (by omega)
theorem sum_if {f : Int → Int} {a : Int} : ∀ {l : List Int}, l.Nodup → a ∈ l → (l.map fun p => if p = a then f p else 0).sum = f a
  | [], _, h => by cases h
  | x :: l, nd, h => by
    have nd := List.nodup_cons.mp nd
    rw [List.map_cons, List.sum_cons]
    by_cases e : x = a
    · subst e
      rw [if_pos rfl]
      have z : ∀ m : List Int, x ∉ m → (m.map fun p => if p = x then f p else 0).sum = 0 := by
        intro m
        induction m with
        | nil => intro _; rfl
        | cons y m ih =>
          intro hx
          rw [List.map_cons, List.sum_cons, if_neg (fun z => hx (by rw [z]; exact List.mem_cons_self)), ih fun z => hx (List.mem_cons_of_mem _ z)]; rfl
      rw [z l nd.1]; omega
    · rw [if_neg e]
      rcases List.mem_cons.mp h with z | z
      · exact absurd z.symm e
      · rw [sum_if nd.2 z]; omega
theorem sum_add {α : Type} {f g : α → Int} : ∀ l : List α, (l.map fun p => f p + g p).sum = (l.map f).sum + (l.map g).sum
  | [] => rfl
  | x :: l => by
    rw [List.map_cons, List.map_cons, List.map_cons, List.sum_cons, List.sum_cons, List.sum_cons, sum_add l]; omega
theorem sum_ends {n : Nat} {f : Int → Int} : ∀ l : List (Int × Int), (∀ q ∈ l, 0 ≤ q.1 ∧ q.1 < q.2 ∧ q.2 < (n : Int)) → ((ri 0 n).map fun p => ((l.filter fun q => [q.1, q.2].contains p).length : Int) * f p).sum = (l.map fun q => f q.1 + f q.2).sum
  | [], _ => by
    have : ∀ m : List Int, (m.map fun p => (((([] : List (Int × Int)).filter fun q => [q.1, q.2].contains p).length : Nat) : Int) * f p).sum = 0 := by
      intro m
      induction m with
      | nil => rfl
      | cons x m ih => rw [List.map_cons, List.sum_cons, ih]; simp
    exact this _
  | q :: l, h => by
    have hq := h q List.mem_cons_self
    have ih := sum_ends (f := f) l fun r hr => h r (List.mem_cons_of_mem _ hr)
    have e : ((ri 0 n).map fun p => ((((q :: l).filter fun q => [q.1, q.2].contains p).length : Nat) : Int) * f p) = (ri 0 n).map fun p => (((l.filter fun q => [q.1, q.2].contains p).length : Int) * f p + ((if p = q.1 then f p else 0) + (if p = q.2 then f p else 0))) := by
      refine List.map_congr_left fun p _ => ?_
      by_cases c : p = q.1 ∨ p = q.2
      · rw [List.filter_cons_of_pos (by simpa using c), List.length_cons]
        rcases c with c | c
        · rw [if_pos c, if_neg (by omega), Int.natCast_add, Int.add_mul]; omega
        · rw [if_neg (by omega), if_pos c, Int.natCast_add, Int.add_mul]; omega
      · rw [List.filter_cons_of_neg (by simpa using c), if_neg (fun z => c (.inl z)), if_neg (fun z => c (.inr z))]; omega
    rw [e, sum_add, sum_add, ih, sum_if (ri_nodup _ _) (mem_ri.mpr (by omega)), sum_if (ri_nodup _ _) (mem_ri.mpr (by omega)), List.map_cons, List.sum_cons]
    omega
theorem sum_even {α : Type} {f : α → Int} : ∀ l : List α, (∀ x ∈ l, f x % 2 = 0) → (l.map f).sum % 2 = 0
  | [], _ => rfl
  | x :: l, h => by
    have h1 := h x List.mem_cons_self
    have h2 := sum_even l fun y hy => h y (List.mem_cons_of_mem _ hy)
    rw [List.map_cons, List.sum_cons]; omega
theorem sum_par {α : Type} {f g : α → Int} : ∀ l : List α, (∀ x ∈ l, f x % 2 = g x % 2) → (l.map f).sum % 2 = (l.map g).sum % 2
  | [], _ => rfl
  | x :: l, h => by
    have h1 := h x List.mem_cons_self
    have h2 := sum_par l fun y hy => h y (List.mem_cons_of_mem _ hy)
    rw [List.map_cons, List.sum_cons, List.map_cons, List.sum_cons]; omega
theorem sum_first : ∀ m : Nat, (ri 1 m).sum % 2 = if m % 4 = 1 ∨ m % 4 = 2 then 1 else 0
  | 0 => rfl
  | m + 1 => by
    have ih := sum_first m
    rw [ri_succ, List.sum_append, List.sum_singleton]
    split at ih <;> split <;> omega
theorem perm_sum : ∀ {a b : List Int}, a.Perm b → a.sum = b.sum := fun h => by
  induction h with
  | nil => rfl
  | cons x _ ih => rw [List.sum_cons, List.sum_cons, ih]
  | swap x y l => rw [List.sum_cons, List.sum_cons, List.sum_cons, List.sum_cons]; omega
  | trans _ _ h1 h2 => rw [h1, h2]
theorem barred_none {w : Wb} (g : GoodW w) (h : barN w = true) (c : List Int) : ¬ Val w (topW w) c := fun v => by
  unfold barN at h
  rw [Bool.and_eq_true] at h
  obtain ⟨h1, h2⟩ := h
  have h1 := evenN_iff.mp h1
  have h2 : topW w % 4 = 1 ∨ topW w % 4 = 2 := by simpa using h2
  have lo := g.lo
  have pm : (linesN w c).Perm (ri 1 w.2.length) := (sortI_perm _).symm.trans (by rw [lines_all g v])
  have s1 := perm_sum pm
  have s2 := sum_first w.2.length
  unfold topW at h2
  rw [if_pos (by omega), ← s1] at s2
  have s3 : (linesN w c).sum % 2 = (w.2.map fun q => at0 c q.1 + at0 c q.2).sum % 2 := by
    unfold linesN
    refine sum_par _ fun q _ => ?_
    unfold iabs
    split <;> omega
  have s4 := sum_ends (n := w.1.toNat) (f := at0 c) w.2 fun q hq => by have := g.line q hq; omega
  rw [s3, ← s4] at s2
  have s5 := sum_even (f := fun p => ((w.2.filter fun q => [q.1, q.2].contains p).length : Int) * at0 c p) (ri 0 w.1.toNat) fun p hp => by
    have hp := mem_ri.mp hp
    have := h1 p (by omega) (by omega)
    obtain ⟨k, hk⟩ : ∃ k, (w.2.filter fun q => [q.1, q.2].contains p).length = 2 * k := ⟨(w.2.filter fun q => [q.1, q.2].contains p).length / 2, by omega⟩
    show (((w.2.filter fun q => [q.1, q.2].contains p).length : Nat) : Int) * at0 c p % 2 = 0
    rw [hk]
    have : ((2 * k : Nat) : Int) * at0 c p = 2 * ((k : Int) * at0 c p) := by rw [Int.natCast_mul, Int.mul_assoc]; rfl
    rw [this]
    exact Int.mul_emod_right _ _
  rw [s5] at s2
  omega
theorem ring07a : ∀ n ∈ [(3 : Int), 4, 5, 6], okW (n, ringP n) = true ∧ barN (n, ringP n) = [5, 6].contains n := by decide +kernel
theorem ring07b : ∀ n ∈ [(3 : Int), 4], (firstFrom (n, ringP n) (topW (n, ringP n)) []).isNone = false := by decide +kernel
theorem ring07 {n : Int} (h1 : 3 ≤ n) (h6 : n ≤ 6) : okW (n, ringP n) = true ∧ barN (n, ringP n) = [5, 6].contains n ∧ (firstFrom (n, ringP n) (topW (n, ringP n)) []).isNone = barN (n, ringP n) := by
  have : n = 3 ∨ n = 4 ∨ n = 5 ∨ n = 6 := by omega
  have hm : n ∈ [(3 : Int), 4, 5, 6] := by rcases this with rfl | rfl | rfl | rfl <;> decide
  obtain ⟨a, b⟩ := ring07a n hm
  refine ⟨a, b, ?_⟩
  cases e : barN (n, ringP n) with
  | true => exact (first_none (good_of a)).mpr (barred_none (good_of a) e)
  | false =>
    rcases this with rfl | rfl | rfl | rfl
    · exact ring07b 3 (by decide)
    · exact ring07b 4 (by decide)
    · rw [b] at e; simp at e
    · rw [b] at e; simp at e
theorem last07 : (okW (1, []) = true ∧ barN (1, []) = false) ∧ (okW (3, []) = true ∧ barN (3, []) = false) ∧ (okW (2, [(0, 1)]) = true ∧ barN (2, [(0, 1)]) = false) := by decide +kernel
end U
namespace U
open PySem L2 PyProof.Rows DL
open Evl (Ex)
open LamX (lamS_by)
section
variable {P : Program} {w : World} {K : PySem.W.Frag} {mg : Str → Option Value} {base : Heap} {xa : Str → Addr}
abbrev s_is_barred : Stmt := topS 35
theorem sc_is_barred : FnScope ["web", "place"] ["web"] (defScope s_is_barred) := ⟨rfl, rfl, rfl, by decide +kernel, rfl, by decide +kernel, by decide +kernel⟩
theorem bd_is_barred : BindsAs "is_barred" s_is_barred ["web"] := fun _ _ _ _ _ _ us hl => match us, hl with | [_], _ => rfl

def barR (xa : XA) (d : PyData) : Res := if webB d = true then .ok (.bool (barN (toW d))) else .ex (xa "InvalidWeb")
def R_is_barred (xa : XA) : List PyData → Res → Prop := fun ds r => ∃ d, ds = [d] ∧ smallW d ∧ r = barR xa d
theorem ok_is_barred (F : Fn K mg "is_barred" s_is_barred) (B : Bt mg) (c_need_web : Cal P w K mg base 4 "need_web" ["web"] (spP (R_need_web xa))) (c_near_of : Cal P w K mg base 1 "near_of" ["web", "place"] (spP R_near_of)) (c_top_of : Cal P w K mg base 1 "top_of" ["web"] (spP R_top_of)) : Cal P w K mg base 5 "is_barred" ["web"] (spP (R_is_barred xa)) :=
  calP F sc_is_barred bd_is_barred (fun ds r ⟨_, e, _⟩ => by rw [e]; rfl) fun f cdv A outer s H E hr => by
  refine ⟨_, (pss_cons (ps_expr (pe_calX (E := E) c_need_web (hr.mono (by decide)) (by rfl) (takesN rfl rfl rfl rfl) (pa_cons (pv 0) pa_nil)))
      (PSs.nox (pss_cons (ps_if (pt_not (pt_val (pe_callB (allK (K := K) rfl rfl) (by rfl) B.all bb_all (pa_cons (pe_lc (own := [("place", 1)]) (g := (gName 1)) (tt := tYes) rfl sc_is_barred.nd (pi_range1 (by rfl) B.range (pa_cons (pe_ix (ixT (K := K) rfl) (pv 0) pe_int (fun _ _ => rfl)) pa_nil)) (blkOk_by (own := [("place", 1)]) (N := ["web", "place"]) (sc := defScope s_is_barred) (by decide +kernel)) (fun _ _ _ _ _ => (pg_name (i := 1) sc_is_barred.nd rfl (Or.inl rfl))) (fun _ _ _ _ _ => pts_nil) (fun _ _ _ _ _ => (pe_cmpR op_eq (pe_op op_mod (pe_callB (lenK (K := K) rfl) (by rfl) B.len bb_len (pa_cons (pe_cal c_near_of (hr.mono (by decide)) (by rfl) (pa_cons (pv 0) (pa_cons (pv 1) pa_nil))) pa_nil)) pe_int) pe_int (nomark _)))) pa_nil)))) (pss_one (ps_ret pe_bl)) pss_nil)
      (pss_one (ps_ret (pe_cmpR (inK (K := K) rfl) (pe_op op_mod (pe_cal c_top_of (hr.mono (by decide)) (by rfl) (pa_cons (pv 0) pa_nil)) pe_int) (pe_tup (pa_cons pe_int (pa_cons pe_int pa_nil))) (by rfl))))))), fun ds r ⟨d, e1, hsm, e2⟩ => ?_⟩
  subst e1 e2
  unfold barR
  by_cases h : webB d = true
  · rw [if_pos h]
    obtain ⟨v, rfl, ok⟩ := webB_iff.mp h
    have g := good_of ok
    have lo := g.lo
    have hi := g.hi
    have h15 := lines15 g
    rw [toW_eW]
    have first := ss_drop (X := E) (ee_call (T := []) (E := E) (R := R_need_web xa) (ea_1 (ee_var (ρ := slots 2 [eW v]) (i := 0) rfl)) ⟨eW v, rfl, hsm, by unfold needWeb; rw [if_pos h]⟩)
    have tst := et_not (et_B (ee_cb (T := []) (r := rAll K) (ea_1 (el_lcR1p (n := v.1) (es := ((ri 0 v.1.toNat).map fun p => decide (((nearN v p).length : Int) % 2 = 0)).map PyData.bool) (g := gName 1) (vs := [1]) (ea_1 (ee_w0 (K := K) (ρ := slots 2 [eW v]) (i := 0) rfl)) (by omega) (lcr_bools PyData.int (fun p => decide (((nearN v p).length : Int) % 2 = 0)) _ fun p _ => lc1m (by intro _ _ h; cases h) (ee_op (ee_op (ee_lenL (K := K) (enc := PyData.int) (ee_call (E := E0) (R := R_near_of) (ea_2 (ee_var (i := 0) rfl) (ee_var (i := 1) rfl)) ⟨v, p, rfl, by omega, rfl⟩)) (ee_int (i := 2)) (re_mod (by decide))) (ee_int (i := 0)) re_eqI)) (by rw [List.length_map, List.length_map, ri_len]; omega)).ee) rb_all))
    unfold barN
    cases he : evenN v with
    | false => exact ⟨_, ss_seq first (ss_seqR (ss_if (ET.is tst (by show (!evenN v) = true; rw [he]; rfl)) (fun _ => ss_ret ee_bl) (fun h => by cases h))), rfl⟩
    | true => exact ⟨_, ss_seq first (ss_seq (ss_if (ET.is tst (by show (!evenN v) = false; rw [he]; rfl)) (fun h => by cases h) (fun _ => ss_next)) (ss_ret (ee_op (ee_op (ee_call (ea_1 (ee_var rfl)) ⟨v, rfl, rfl⟩) ee_int (re_mod (by decide))) (ee_tup (ea_2 ee_int ee_int) (by simp)) (re_inT (ns := [1, 2]))))), rfl⟩
  · rw [if_neg h]
    exact ⟨_, ss_seqX (ss_callX (ea_1 (ee_var rfl)) ⟨d, rfl, hsm, by unfold needWeb; rw [if_neg h]⟩), rfl⟩

end
end U
namespace U
open PySem L2 PyProof.Rows DL
open Evl (Ex)
open LamX (lamS_by)
section
variable {P : Program} {w : World} {K : PySem.W.Frag} {mg : Str → Option Value} {base : Heap} {xa : Str → Addr}
abbrev s_first_good : Stmt := topS 30
theorem sc_first_good : FnScope ["web"] ["web"] (defScope s_first_good) := ⟨rfl, rfl, rfl, by decide +kernel, rfl, by decide +kernel, by decide +kernel⟩
theorem bd_first_good : BindsAs "first_good" s_first_good ["web"] := fun _ _ _ _ _ _ us hl => match us, hl with | [_], _ => rfl

def firstR (xa : XA) (d : PyData) : Res := if webB d = true then .ok (optD (firstFrom (toW d) (topW (toW d)) [])) else .ex (xa "InvalidWeb")
def R_first_good (xa : XA) : List PyData → Res → Prop := fun ds r => ∃ d, ds = [d] ∧ smallW d ∧ (webB d = true → (toW d).2.length ≤ 20) ∧ r = firstR xa d
theorem ok_first_good (F : Fn K mg "first_good" s_first_good) (B : Bt mg) (c_need_web : Cal P w K mg base 4 "need_web" ["web"] (spP (R_need_web xa))) (c_first_from : Cal P w K mg base 11 "first_from" ["web", "top", "begun"] (spP R_first_from)) (c_top_of : Cal P w K mg base 1 "top_of" ["web"] (spP R_top_of)) : Cal P w K mg base 12 "first_good" ["web"] (spP (R_first_good xa)) :=
  calP F sc_first_good bd_first_good (fun ds r ⟨_, e, _⟩ => by rw [e]; rfl) fun f cdv A outer s H E hr => by
  refine ⟨_, (pss_cons (ps_expr (pe_calX (E := E) c_need_web (hr.mono (by decide)) (by rfl) (takesN rfl rfl rfl rfl) (pa_cons (pv 0) pa_nil)))
      (PSs.nox (pss_one (ps_ret (pe_cal c_first_from (hr.mono (by decide)) (by rfl) (pa_cons (pv 0) (pa_cons (pe_cal c_top_of (hr.mono (by decide)) (by rfl) (pa_cons (pv 0) pa_nil)) (pa_cons (pe_tup pa_nil) pa_nil)))))))), fun ds r ⟨d, e1, hsm, h20, e2⟩ => ?_⟩
  subst e1 e2
  unfold firstR
  by_cases h : webB d = true
  · rw [if_pos h]
    have hl := h20 h
    obtain ⟨v, rfl, ok⟩ := webB_iff.mp h
    rw [toW_eW] at hl ⊢
    have g := good_of ok
    have lo := g.lo
    exact ⟨_, ss_seq (ss_drop (X := E) (ee_call (T := []) (E := E) (R := R_need_web xa) (ea_1 (ee_var (ρ := slots 1 [eW v]) (i := 0) rfl)) ⟨eW v, rfl, hsm, by unfold needWeb; rw [if_pos h]⟩)) (ss_ret (ee_call (ea_3 (ee_var rfl) (ee_call (ea_1 (ee_var rfl)) ⟨v, rfl, rfl⟩) (ee_tup ea_nil (by simp))) ⟨v, topW v, [], rfl, g, hl, by unfold topW; omega, by unfold topW; omega, by simp; omega, (fun _ h => by cases h), rfl⟩)), rfl⟩
  · rw [if_neg h]
    exact ⟨_, ss_seqX (ss_callX (ea_1 (ee_var rfl)) ⟨d, rfl, hsm, by unfold needWeb; rw [if_neg h]⟩), rfl⟩

end
end U
namespace U
open PySem L2 PyProof.Rows DL
open Evl (Ex)
open LamX (lamS_by)
section
variable {P : Program} {w : World} {K : PySem.W.Frag} {mg : Str → Option Value} {base : Heap} {xa : Str → Addr}
abbrev s_numbers_of_lines : Stmt := topS 16
theorem sc_numbers_of_lines : FnScope ["web", "numbering", "first", "last"] ["web", "numbering"] (defScope s_numbers_of_lines) := ⟨rfl, rfl, rfl, by decide +kernel, rfl, by decide +kernel, by decide +kernel⟩
theorem bd_numbers_of_lines : BindsAs "numbers_of_lines" s_numbers_of_lines ["web", "numbering"] := fun _ _ _ _ _ _ us hl => match us, hl with | [_, _], _ => rfl

def R_numbers_of_lines : List PyData → Res → Prop := fun ds r => ∃ (v : Wb) (ns : List Int), ds = [eW v, eT ns] ∧ small v ∧ EndsW v ns.length ∧ r = .ok (eT (linesN v ns))
theorem ok_numbers_of_lines (F : Fn K mg "numbers_of_lines" s_numbers_of_lines) (B : Bt mg) : Cal P w K mg base 1 "numbers_of_lines" ["web", "numbering"] (spP R_numbers_of_lines) :=
  calQ F sc_numbers_of_lines bd_numbers_of_lines (fun ds r ⟨_, _, e, _⟩ => by rw [e]; rfl) fun f cdv A outer s H E hr => by
  refine ⟨_, (pss_one (ps_ret (pe_callTy (tupK (K := K) rfl) (by rfl) B.tuple bb_tuple (pa_cons (pe_lc (own := [("first", 2), ("last", 3)]) (g := (gTup K 2 (gCons (gName 2) (gCons (gName 3) gNil)))) (tt := tYes) rfl sc_numbers_of_lines.nd (piT (K := K) rfl (pe_ix (ixT (K := K) rfl) (pv 0) pe_int (fun _ _ => rfl))) (blkOk_by (own := [("first", 2), ("last", 3)]) (N := ["web", "numbering", "first", "last"]) (sc := defScope s_numbers_of_lines) (by decide +kernel)) (fun _ _ _ _ _ => (pgT (K := K) rfl rfl (pgs_cons (pg_name (i := 2) sc_numbers_of_lines.nd rfl (Or.inl rfl)) (pgs_cons (pg_name (i := 3) sc_numbers_of_lines.nd rfl (Or.inl rfl)) pgs_nil)))) (fun _ _ _ _ _ => pts_nil) (fun _ _ _ _ _ => (pe_callB call_abs (by rfl) B.abs bb_abs (pa_cons (pe_op op_sub (pe_ix (ixT (K := K) rfl) (pv 1) (pv 2) (fun _ _ => rfl)) (pe_ix (ixT (K := K) rfl) (pv 1) (pv 3) (fun _ _ => rfl))) pa_nil)))) pa_nil)))), fun ds r ⟨v, ns, e1, hsm, he, e2⟩ => ?_⟩
  subst e1 e2
  refine ⟨_, ss_ret (ee_cb (ea_1 (el_lcT (ee_op (ee_var rfl) ee_int (re_ixT (d := ePs v.2) rfl)) (lcr_ints eP (fun p => iabs (at0 ns p.1 - at0 ns p.2)) v.2 fun p hp => lc2m (by decide) (by intro _ _ h; cases h) (by intro _ _ h; cases h)
    (ee_cb (ea_1 (ee_op (ee_op (ee_var rfl) (ee_var rfl) (re_ixT (at0_ok (he p hp).1.1 (he p hp).1.2))) (ee_op (ee_var rfl) (ee_var rfl) (re_ixT (at0_ok (he p hp).2.1 (he p hp).2.2))) re_sub)) rb_abs)) (by simp; exact Nat.le_trans hsm (by decide))).ee) rb_tupL), rfl⟩

end
end U
namespace U
open PySem L2 PyProof.Rows DL
open Evl (Ex)
open LamX (lamS_by)
section
variable {P : Program} {w : World} {K : PySem.W.Frag} {mg : Str → Option Value} {base : Heap} {xa : Str → Addr}
abbrev s_all_differ : Stmt := topS 18
theorem sc_all_differ : FnScope ["web", "numbering"] ["web", "numbering"] (defScope s_all_differ) := ⟨rfl, rfl, rfl, by decide +kernel, rfl, by decide +kernel, by decide +kernel⟩
theorem bd_all_differ : BindsAs "all_differ" s_all_differ ["web", "numbering"] := fun _ _ _ _ _ _ us hl => match us, hl with | [_, _], _ => rfl

def R_all_differ : List PyData → Res → Prop := fun ds r => ∃ (v : Wb) (ns : List Int), ds = [eW v, eT ns] ∧ v.2.length ≤ 1000 ∧ EndsW v ns.length ∧ r = .ok (.bool (differN v ns))
theorem ok_all_differ (F : Fn K mg "all_differ" s_all_differ) (B : Bt mg) (c_numbers_of_lines : Cal P w K mg base 1 "numbers_of_lines" ["web", "numbering"] (spP R_numbers_of_lines)) : Cal P w K mg base 2 "all_differ" ["web", "numbering"] (spP R_all_differ) :=
  calQ F sc_all_differ bd_all_differ (fun ds r ⟨_, _, e, _⟩ => by rw [e]; rfl) fun f cdv A outer s H E hr => by
  refine ⟨_, (pss_one (ps_ret (pe_cmpR op_eq (pe_callB cr_lenS (by rfl) B.len bb_len (pa_cons (pe_callTy (setK (K := K) rfl rfl) (by rfl) B.set bb_set (pa_cons (pe_cal c_numbers_of_lines (hr.mono (by decide)) (by rfl) (pa_cons (pv 0) (pa_cons (pv 1) pa_nil))) pa_nil)) pa_nil)) (pe_callB (lenK (K := K) rfl) (by rfl) B.len bb_len (pa_cons (pe_ix (ixT (K := K) rfl) (pv 0) pe_int (fun _ _ => rfl)) pa_nil)) (nomark _)))), fun ds r ⟨v, ns, e1, hsm, he, e2⟩ => ?_⟩
  subst e1 e2
  refine ⟨_, ss_ret (ee_op (ee_lenSetT (ns := linesN v ns) (ee_call (ea_2 (ee_var rfl) (ee_var rfl)) ⟨v, ns, rfl, Nat.le_trans hsm (by decide), he, rfl⟩) (by unfold linesN; rw [List.length_map]; omega)) (ee_cb (ea_1 (ee_op (ee_var rfl) ee_int (re_ixT (d := ePs v.2) rfl))) rb_lenT) re_eqI), ?_⟩
  show PyData.bool _ = PyData.bool _
  rw [List.length_map]
  unfold differN
  congr 1
  simp only [decide_eq_decide]
  omega

end
end U
namespace U
open PySem L2 PyProof.Rows DL
open Evl (Ex)
open LamX (lamS_by)
section
variable {P : Program} {w : World} {K : PySem.W.Frag} {mg : Str → Option Value} {base : Heap} {xa : Str → Addr}
abbrev s_are_unlike : Stmt := topS 12
theorem sc_are_unlike : FnScope ["value", "most", "top", "one"] ["value", "most", "top"] (defScope s_are_unlike) := ⟨rfl, rfl, rfl, by decide +kernel, rfl, by decide +kernel, by decide +kernel⟩
theorem bd_are_unlike : BindsAs "are_unlike" s_are_unlike ["value", "most", "top"] := fun _ _ _ _ _ _ us hl => match us, hl with | [_, _, _], _ => rfl

def R_are_unlike : List PyData → Res → Prop := fun ds r => ∃ d m t, ds = [d, .int m, .int t] ∧ m ≤ 1000 ∧ r = .ok (.bool (unlikeB d m t))
theorem wholes_ints : ∀ {xs : List PyData} {t : Int}, (xs.map fun d => wholeB d 0 t).all id = true → ∃ ns : List Int, xs = ns.map PyData.int ∧ ns.all (rangeB t) = true
  | [], _, _ => ⟨[], rfl, rfl⟩
  | d :: xs, t, h => by
    rw [List.map_cons, List.all_cons, Bool.and_eq_true] at h
    obtain ⟨ns, rfl, h2⟩ := wholes_ints h.2
    have h1 : wholeB d 0 t = true := h.1
    obtain ⟨i, rfl⟩ : ∃ i, d = .int i := by cases d <;> first | exact ⟨_, rfl⟩ | exact absurd h1 (by simp [wholeB])
    exact ⟨i :: ns, rfl, by rw [List.all_cons, h2, Bool.and_true]; exact h1⟩
theorem unlike_no {xs : List PyData} {m t : Int} (h : (xs.map fun d => wholeB d 0 t).all id = false) : unlikeB (.tuple xs) m t = false := by
  cases q : unlikeB (.tuple xs) m t with
  | false => rfl
  | true =>
    cases e : asIs xs with
    | none => rw [unlikeB_none e] at q; cases q
    | some ns =>
      rw [unlikeB_some e] at q
      unfold unlikeN at q
      simp only [Bool.and_eq_true, List.all_eq_true] at q
      have : (xs.map fun d => wholeB d 0 t).all id = true := by
        rw [asIs_eq e, List.map_map, List.all_map, List.all_eq_true]
        exact fun n hn => q.2.1 n hn
      rw [this] at h
      cases h
theorem ok_are_unlike (F : Fn K mg "are_unlike" s_are_unlike) (B : Bt mg) (c_is_whole : Cal P w K mg base 1 "is_whole" ["value", "low", "high"] (spP R_is_whole)) : Cal P w K mg base 2 "are_unlike" ["value", "most", "top"] (spP R_are_unlike) :=
  calQ F sc_are_unlike bd_are_unlike (fun ds r ⟨_, _, _, e, _⟩ => by rw [e]; rfl) fun f cdv A outer s H E hr => by
  refine ⟨_, (pss_cons (ps_if (PW.pt (pw_or (pt_not (pt_val (pe_callB (isiK (K := K) rfl) (by rfl) B.isinstance bb_isinstance (pa_cons (pv 0) (pa_cons (pe_bltn (v := .ty "tuple") (by rfl) B.tuple bb_tuple rfl) pa_nil))))) (pw_or (pt_cmpR op_gt (pe_callB (lenK (K := K) rfl) (by rfl) B.len bb_len (pa_cons (pv 0) pa_nil)) (pv 1) (nomark _)) (pw_or1 (pt_not (pt_val (pe_callB (allK (K := K) rfl rfl) (by rfl) B.all bb_all (pa_cons (pe_lc (own := [("one", 3)]) (g := (gName 3)) (tt := tYes) rfl sc_are_unlike.nd (piT (K := K) rfl (pv 0)) (blkOk_by (own := [("one", 3)]) (N := ["value", "most", "top", "one"]) (sc := defScope s_are_unlike) (by decide +kernel)) (fun _ _ _ _ _ => (pg_name (i := 3) sc_are_unlike.nd rfl (Or.inl rfl))) (fun _ _ _ _ _ => pts_nil) (fun _ _ _ _ _ => (pe_cal c_is_whole (hr.mono (by decide)) (by rfl) (pa_cons (pv 3) (pa_cons pe_int (pa_cons (pv 2) pa_nil)))))) pa_nil)))))))) (pss_one (ps_ret pe_bl)) pss_nil)
      (pss_one (ps_ret (pe_cmpR op_eq (pe_callB cr_lenS (by rfl) B.len bb_len (pa_cons (pe_callTy (setK (K := K) rfl rfl) (by rfl) B.set bb_set (pa_cons (pv 0) pa_nil)) pa_nil)) (pe_callB (lenK (K := K) rfl) (by rfl) B.len bb_len (pa_cons (pv 0) pa_nil)) (nomark _))))), fun ds r ⟨d, m, t, e1, hm, e2⟩ => ?_⟩
  subst e1 e2
  cases hd : isTup d with
  | false =>
    have : unlikeB d m t = false := by cases d <;> first | rfl | cases hd
    rw [this]
    exact ⟨_, ss_seqR (ss_if (et_orT (et_not (et_B (ee_is_bool (ee_isTup (ee_var rfl)) hd)))) (fun _ => ss_ret ee_bl) (fun h => by cases h)), rfl⟩
  | true =>
    obtain ⟨xs, rfl⟩ : ∃ xs, d = .tuple xs := by cases d <;> first | exact ⟨_, rfl⟩ | cases hd
    by_cases hl : m < (xs.length : Int)
    · have : unlikeB (.tuple xs) m t = false := by
        cases q : unlikeB (.tuple xs) m t with
        | false => rfl
        | true =>
          cases e : asIs xs with
          | none => rw [unlikeB_none e] at q; cases q
          | some ns =>
            rw [unlikeB_some e] at q
            unfold unlikeN at q
            simp only [Bool.and_eq_true, decide_eq_true_eq] at q
            have := congrArg List.length (asIs_eq e)
            rw [List.length_map] at this
            omega
      rw [this]
      exact ⟨_, ss_seqR (ss_if (et_orF (et_not (et_B (ee_isTup (d := .tuple xs) (ee_var rfl)))) (et_orT (ET.is (et_test (ee_op (ee_cb (ea_1 (ee_var rfl)) (rb_lenT (es := xs))) (ee_var rfl) re_gt)) (decide_eq_true hl)))) (fun _ => ss_ret ee_bl) (fun h => by cases h)), rfl⟩
    · have t1 := et_orF (T := []) (et_not (et_B (ee_isTup (K := K) (d := .tuple xs) (ee_var (ρ := slots 4 [.tuple xs, .int m, .int t]) (i := 0) rfl)))) (et_orF (ET.is (et_test (ee_op (ee_cb (ea_1 (ee_var (i := 0) rfl)) (rb_lenT (K := K) (es := xs))) (ee_var (i := 1) rfl) re_gt)) (decide_eq_false hl))
        (et_not (et_B (ee_cb (r := rAll K) (ea_1 (el_lcT (K := K) (tl := tVar 0) (g := gName 3) (tt := tYes) (vs := [3]) (ee_var rfl) (lcr_dbools (fun d => wholeB d 0 t) xs fun x _ => lc1m (by intro _ _ h; cases h) (ee_call (R := R_is_whole) (E := E0) (ea_3 (ee_var (i := 3) rfl) (ee_int (i := 0)) (ee_var (i := 2) rfl)) ⟨x, 0, t, rfl, rfl⟩)) (by simp; omega)).ee) rb_all))))
      cases hall : (xs.map fun d => wholeB d 0 t).all id with
      | false =>
        rw [hall] at t1
        rw [unlike_no hall]
        exact ⟨_, ss_seqR (ss_if t1 (fun _ => ss_ret ee_bl) (fun h => by cases h)), rfl⟩
      | true =>
        rw [hall] at t1
        obtain ⟨ns, rfl, hr⟩ := wholes_ints hall
        refine ⟨_, ss_seq (ss_if t1 (fun h => by cases h) (fun _ => ss_next)) (ss_ret (ee_op (ee_lenSetT (ns := ns) (ee_var rfl) (by have : (ns.map PyData.int).length = ns.length := List.length_map _; omega)) (ee_cb (ea_1 (ee_var rfl)) rb_lenT) re_eqI)), ?_⟩
        show PyData.bool _ = PyData.bool _
        rw [show PyData.tuple (ns.map PyData.int) = eT ns from rfl, unlikeB_eT]
        unfold unlikeN
        rw [hr, List.length_map]
        have h2 : (ns.length : Int) ≤ m := by have : (ns.map PyData.int).length = ns.length := List.length_map _; omega
        rw [decide_eq_true h2, Bool.true_and, Bool.true_and]
        congr 1
        simp only [decide_eq_decide]
        omega

end
end U
namespace U
open PySem L2 PyProof.Rows DL
open Evl (Ex)
open LamX (lamS_by)
section
variable {P : Program} {w : World} {K : PySem.W.Frag} {mg : Str → Option Value} {base : Heap} {xa : Str → Addr}
abbrev s_fits_top : Stmt := topS 13
theorem sc_fits_top : FnScope ["web", "top", "value"] ["web", "top", "value"] (defScope s_fits_top) := ⟨rfl, rfl, rfl, by decide +kernel, rfl, by decide +kernel, by decide +kernel⟩
theorem bd_fits_top : BindsAs "fits_top" s_fits_top ["web", "top", "value"] := fun _ _ _ _ _ _ us hl => match us, hl with | [_, _, _], _ => rfl

def R_fits_top : List PyData → Res → Prop := fun ds r => ∃ (v : Wb) (t : Int) (d : PyData), ds = [eW v, .int t, d] ∧ v.1 ≤ 1000 ∧ r = .ok (.bool (fitsB v t d))
theorem fitsB_and (v : Wb) (t : Int) (d : PyData) (h : unlikeB d v.1 t = true) : ∃ ns, d = eT ns ∧ fitsB v t d = decide ((ns.length : Int) = v.1) := by
  cases d with
  | tuple ds =>
    cases e : asIs ds with
    | none => rw [unlikeB_none e] at h; cases h
    | some ns =>
      rw [unlikeB_some e] at h
      refine ⟨ns, by rw [asIs_eq e], ?_⟩
      rw [asIs_eq e, show PyData.tuple (ns.map PyData.int) = eT ns from rfl, fitsB_eT]
      unfold fitsN
      rw [h, Bool.true_and]
  | _ => cases h
theorem fitsB_no (v : Wb) (t : Int) (d : PyData) (h : unlikeB d v.1 t = false) : fitsB v t d = false := by
  cases q : fitsB v t d with
  | false => rfl
  | true =>
    obtain ⟨ns, rfl, f⟩ := fitsB_iff.mp q
    rw [unlikeB_eT] at h
    unfold fitsN at f
    rw [h] at f
    cases f
theorem ok_fits_top (F : Fn K mg "fits_top" s_fits_top) (B : Bt mg) (c_are_unlike : Cal P w K mg base 2 "are_unlike" ["value", "most", "top"] (spP R_are_unlike)) : Cal P w K mg base 3 "fits_top" ["web", "top", "value"] (spP R_fits_top) :=
  calQ F sc_fits_top bd_fits_top (fun ds r ⟨_, _, _, e, _⟩ => by rw [e]; rfl) fun f cdv A outer s H E hr => by
  refine ⟨_, (pss_one (ps_ret (pe_and (pe_cal c_are_unlike (hr.mono (by decide)) (by rfl) (pa_cons (pv 2) (pa_cons (pe_ix (ixT (K := K) rfl) (pv 0) pe_int (fun _ _ => rfl)) (pa_cons (pv 1) pa_nil)))) (pe_one (pe_cmpR op_eq (pe_callB (lenK (K := K) rfl) (by rfl) B.len bb_len (pa_cons (pv 2) pa_nil)) (pe_ix (ixT (K := K) rfl) (pv 0) pe_int (fun _ _ => rfl)) (nomark _)))))), fun ds r ⟨v, t, d, e1, hm, e2⟩ => ?_⟩
  subst e1 e2
  have c := ee_call (T := []) (E := E0) (R := R_are_unlike) (ea_3 (ee_var (ρ := slots 3 [eW v, .int t, d]) (i := 2) rfl) (ee_op (ee_var (i := 0) rfl) (ee_int (i := 0)) (re_ixT (K := K) (d := .int v.1) rfl)) (ee_var (i := 1) rfl)) ⟨d, v.1, t, rfl, hm, rfl⟩
  cases h : unlikeB d v.1 t with
  | false =>
    rw [fitsB_no v t d h]
    exact ⟨_, ss_ret (ee_andF (ee_is_bool c h)), rfl⟩
  | true =>
    obtain ⟨ns, rfl, e⟩ := fitsB_and v t d h
    rw [e]
    refine ⟨_, ss_ret (ee_andT (ee_is_bool c h) (ee_op (ee_cb (ea_1 (ee_var rfl)) rb_lenT) (ee_op (ee_var rfl) ee_int (re_ixT (d := .int v.1) rfl)) re_eqI)), ?_⟩
    show PyData.bool _ = PyData.bool _
    rw [List.length_map]

end
end U
namespace U
open PySem L2 PyProof.Rows DL
open Evl (Ex)
open LamX (lamS_by)
section
variable {P : Program} {w : World} {K : PySem.W.Frag} {mg : Str → Option Value} {base : Heap} {xa : Str → Addr}
abbrev s_is_good : Stmt := topS 19
theorem sc_is_good : FnScope ["web", "value"] ["web", "value"] (defScope s_is_good) := ⟨rfl, rfl, rfl, by decide +kernel, rfl, by decide +kernel, by decide +kernel⟩
theorem bd_is_good : BindsAs "is_good" s_is_good ["web", "value"] := fun _ _ _ _ _ _ us hl => match us, hl with | [_, _], _ => rfl

def R_is_good (xa : XA) : List PyData → Res → Prop := fun ds r => ∃ d e, ds = [d, e] ∧ smallW d ∧ (webB d = true → (toW d).2.length ≤ 1000) ∧ r = goodR xa d e
theorem ok_is_good (F : Fn K mg "is_good" s_is_good) (B : Bt mg) (c_need_web : Cal P w K mg base 4 "need_web" ["web"] (spP (R_need_web xa))) (c_all_differ : Cal P w K mg base 2 "all_differ" ["web", "numbering"] (spP R_all_differ)) (c_fits_top : Cal P w K mg base 3 "fits_top" ["web", "top", "value"] (spP R_fits_top)) (c_top_of : Cal P w K mg base 1 "top_of" ["web"] (spP R_top_of)) : Cal P w K mg base 5 "is_good" ["web", "value"] (spP (R_is_good xa)) :=
  calP F sc_is_good bd_is_good (fun ds r ⟨_, _, e, _⟩ => by rw [e]; rfl) fun f cdv A outer s H E hr => by
  refine ⟨_, (pss_cons (ps_expr (pe_calX (E := E) c_need_web (hr.mono (by decide)) (by rfl) (takesN rfl rfl rfl rfl) (pa_cons (pv 0) pa_nil)))
      (PSs.nox (pss_one (ps_ret (pe_and (pe_cal c_fits_top (hr.mono (by decide)) (by rfl) (pa_cons (pv 0) (pa_cons (pe_cal c_top_of (hr.mono (by decide)) (by rfl) (pa_cons (pv 0) pa_nil)) (pa_cons (pv 1) pa_nil)))) (pe_one (pe_cal c_all_differ (hr.mono (by decide)) (by rfl) (pa_cons (pv 0) (pa_cons (pv 1) pa_nil))))))))), fun ds r ⟨d, e, e1, hsm, h1000, e2⟩ => ?_⟩
  subst e1 e2
  unfold goodR
  by_cases h : webB d = true
  · rw [if_pos h]
    have hl := h1000 h
    obtain ⟨v, rfl, ok⟩ := webB_iff.mp h
    rw [toW_eW] at hl ⊢
    have g := good_of ok
    have first := ss_drop (X := E) (ee_call (T := []) (E := E) (R := R_need_web xa) (ea_1 (ee_var (ρ := slots 2 [eW v, e]) (i := 0) rfl)) ⟨eW v, rfl, hsm, by unfold needWeb; rw [if_pos h]⟩)
    have c := ee_call (T := []) (E := E0) (R := R_fits_top) (ea_3 (ee_var (ρ := slots 2 [eW v, e]) (i := 0) rfl) (ee_call (E := E0) (R := R_top_of) (ea_1 (ee_var (i := 0) rfl)) ⟨v, rfl, rfl⟩) (ee_var (i := 1) rfl)) ⟨v, topW v, e, rfl, by have := g.hi; omega, rfl⟩
    unfold goodB
    cases hf : fitsB v (topW v) e with
    | false => exact ⟨_, ss_seq first (ss_ret (ee_andF (ee_is_bool c hf))), rfl⟩
    | true =>
      obtain ⟨ns, rfl, fn⟩ := fitsB_iff.mp hf
      rw [toN_eT]
      exact ⟨_, ss_seq first (ss_ret (ee_andT (ee_is_bool c hf) (ee_call (ea_2 (ee_var rfl) (ee_var rfl)) ⟨v, ns, rfl, hl, ends_of g (fits_of fn), rfl⟩))), rfl⟩
  · rw [if_neg h]
    exact ⟨_, ss_seqX (ss_callX (ea_1 (ee_var rfl)) ⟨d, rfl, hsm, by unfold needWeb; rw [if_neg h]⟩), rfl⟩

end
end U
namespace U
open PySem L2 PyProof.Rows DL
open Evl (Ex)
open LamX (lamS_by)
section
variable {P : Program} {w : World} {K : PySem.W.Frag} {mg : Str → Option Value} {base : Heap} {xa : Str → Addr}
abbrev s_need_numbering : Stmt := topS 15
theorem sc_need_numbering : FnScope ["web", "numbering"] ["web", "numbering"] (defScope s_need_numbering) := ⟨rfl, rfl, rfl, by decide +kernel, rfl, by decide +kernel, by decide +kernel⟩
theorem bd_need_numbering : BindsAs "need_numbering" s_need_numbering ["web", "numbering"] := fun _ _ _ _ _ _ us hl => match us, hl with | [_, _], _ => rfl

def R_need_numbering (xa : XA) : List PyData → Res → Prop := fun ds r => ∃ d e, ds = [d, e] ∧ smallW d ∧ r = needNum xa d e
theorem ok_need_numbering (F : Fn K mg "need_numbering" s_need_numbering) (B : Bt mg) (x_InvalidNumbering : Xc K mg "InvalidNumbering" (xa "InvalidNumbering")) (c_need_web : Cal P w K mg base 4 "need_web" ["web"] (spP (R_need_web xa))) (c_fits_top : Cal P w K mg base 3 "fits_top" ["web", "top", "value"] (spP R_fits_top)) (c_top_of : Cal P w K mg base 1 "top_of" ["web"] (spP R_top_of)) : Cal P w K mg base 5 "need_numbering" ["web", "numbering"] (spP (R_need_numbering xa)) :=
  calP F sc_need_numbering bd_need_numbering (fun ds r ⟨_, _, e, _⟩ => by rw [e]; rfl) fun f cdv A outer s H E hr => by
  refine ⟨_, (pss_cons (ps_expr (pe_calX (E := E) c_need_web (hr.mono (by decide)) (by rfl) (takesN rfl rfl rfl rfl) (pa_cons (pv 0) pa_nil)))
      (pss_one (ps_if (pt_not (pt_val (pe_cal c_fits_top (hr.mono (by decide)) (by rfl) (pa_cons (pv 0) (pa_cons (pe_cal c_top_of (hr.mono (by decide)) (by rfl) (pa_cons (pv 0) pa_nil)) (pa_cons (pv 1) pa_nil)))))) (pss_one (ps_raiseC (E := E) x_InvalidNumbering rfl (by rfl) (takesN rfl rfl rfl rfl))) pss_nil))), fun ds r ⟨d, e, e1, hsm, e2⟩ => ?_⟩
  subst e1 e2
  unfold needNum
  by_cases h : webB d = true
  · rw [if_pos h]
    obtain ⟨v, rfl, ok⟩ := webB_iff.mp h
    have g := good_of ok
    rw [toW_eW]
    have first := ss_drop (X := E) (ee_call (T := []) (E := E) (R := R_need_web xa) (ea_1 (ee_var (ρ := slots 2 [eW v, e]) (i := 0) rfl)) ⟨eW v, rfl, hsm, by unfold needWeb; rw [if_pos h]⟩)
    have t := et_not (et_B (ee_call (T := []) (E := E0) (R := R_fits_top) (ea_3 (ee_var (ρ := slots 2 [eW v, e]) (i := 0) rfl) (ee_call (E := E0) (R := R_top_of) (ea_1 (ee_var (i := 0) rfl)) ⟨v, rfl, rfl⟩) (ee_var (i := 1) rfl)) ⟨v, topW v, e, rfl, by have := g.hi; omega, rfl⟩))
    cases hf : fitsB v (topW v) e with
    | true =>
      rw [hf] at t
      exact ⟨_, ss_seq first (ss_if t (fun h => by cases h) (fun _ => ss_next)), rfl⟩
    | false =>
      rw [hf] at t
      exact ⟨_, ss_seq first (ss_if t (fun _ => ss_raiseC) (fun h => by cases h)), rfl⟩
  · rw [if_neg h]
    exact ⟨_, ss_seqX (ss_callX (ea_1 (ee_var rfl)) ⟨d, rfl, hsm, by unfold needWeb; rw [if_neg h]⟩), rfl⟩

end
end U
namespace U
open PySem L2 PyProof.Rows DL
open Evl (Ex)
open LamX (lamS_by)
section
variable {P : Program} {w : World} {K : PySem.W.Frag} {mg : Str → Option Value} {base : Heap} {xa : Str → Addr}
abbrev s_line_numbers : Stmt := topS 17
theorem sc_line_numbers : FnScope ["web", "numbering"] ["web", "numbering"] (defScope s_line_numbers) := ⟨rfl, rfl, rfl, by decide +kernel, rfl, by decide +kernel, by decide +kernel⟩
theorem bd_line_numbers : BindsAs "line_numbers" s_line_numbers ["web", "numbering"] := fun _ _ _ _ _ _ us hl => match us, hl with | [_, _], _ => rfl

def R_line_numbers (xa : XA) : List PyData → Res → Prop := fun ds r => ∃ d e, ds = [d, e] ∧ smallW d ∧ r = lineNums xa d e
theorem smallW_small {v : Wb} (h : smallW (eW v)) : small v := by
  have := h _ _ rfl
  rw [List.length_map] at this
  exact this
theorem ok_line_numbers (F : Fn K mg "line_numbers" s_line_numbers) (B : Bt mg) (c_need_numbering : Cal P w K mg base 5 "need_numbering" ["web", "numbering"] (spP (R_need_numbering xa))) (c_numbers_of_lines : Cal P w K mg base 1 "numbers_of_lines" ["web", "numbering"] (spP R_numbers_of_lines)) : Cal P w K mg base 6 "line_numbers" ["web", "numbering"] (spP (R_line_numbers xa)) :=
  calP F sc_line_numbers bd_line_numbers (fun ds r ⟨_, _, e, _⟩ => by rw [e]; rfl) fun f cdv A outer s H E hr => by
  refine ⟨_, (pss_cons (ps_expr (pe_calX (E := E) c_need_numbering (hr.mono (by decide)) (by rfl) (takesN rfl rfl rfl rfl) (pa_cons (pv 0) (pa_cons (pv 1) pa_nil))))
      (PSs.nox (pss_one (ps_ret (pe_cal c_numbers_of_lines (hr.mono (by decide)) (by rfl) (pa_cons (pv 0) (pa_cons (pv 1) pa_nil))))))), fun ds r ⟨d, e, e1, hsm, e2⟩ => ?_⟩
  subst e1 e2
  unfold lineNums
  by_cases h : webB d = true
  · rw [if_pos h]
    by_cases hf : fitsB (toW d) (topW (toW d)) e = true
    · rw [if_pos hf]
      obtain ⟨v, rfl, ok⟩ := webB_iff.mp h
      rw [toW_eW] at hf ⊢
      obtain ⟨ns, rfl, fn⟩ := fitsB_iff.mp hf
      rw [toN_eT]
      exact ⟨_, ss_seq (ss_drop (ee_call (ea_2 (ee_var rfl) (ee_var rfl)) ⟨eW v, eT ns, rfl, hsm, by unfold needNum; rw [if_pos h, toW_eW, if_pos hf]⟩)) (ss_ret (ee_call (ea_2 (ee_var rfl) (ee_var rfl)) ⟨v, ns, rfl, smallW_small hsm, ends_of (good_of ok) (fits_of fn), rfl⟩)), rfl⟩
    · rw [if_neg hf]
      exact ⟨_, ss_seqX (ss_callX (ea_2 (ee_var rfl) (ee_var rfl)) ⟨d, e, rfl, hsm, by unfold needNum; rw [if_pos h, if_neg hf]⟩), rfl⟩
  · rw [if_neg h]
    exact ⟨_, ss_seqX (ss_callX (ea_2 (ee_var rfl) (ee_var rfl)) ⟨d, e, rfl, hsm, by unfold needNum; rw [if_neg h]⟩), rfl⟩

end
end U
namespace U
open PySem L2 PyProof.Rows DL
open Evl (Ex)
open LamX (lamS_by)
section
variable {P : Program} {w : World} {K : PySem.W.Frag} {mg : Str → Option Value} {base : Heap} {xa : Str → Addr}
abbrev s_need_place : Stmt := topS 20
theorem sc_need_place : FnScope ["web", "place"] ["web", "place"] (defScope s_need_place) := ⟨rfl, rfl, rfl, by decide +kernel, rfl, by decide +kernel, by decide +kernel⟩
theorem bd_need_place : BindsAs "need_place" s_need_place ["web", "place"] := fun _ _ _ _ _ _ us hl => match us, hl with | [_, _], _ => rfl

def R_need_place (xa : XA) : List PyData → Res → Prop := fun ds r => ∃ (v : Wb) (d : PyData), ds = [eW v, d] ∧ r = (if wholeB d 0 (v.1 - 1) = true then .ok .none else .ex (xa "InvalidPlace"))
theorem ok_need_place (F : Fn K mg "need_place" s_need_place) (B : Bt mg) (x_InvalidPlace : Xc K mg "InvalidPlace" (xa "InvalidPlace")) (c_is_whole : Cal P w K mg base 1 "is_whole" ["value", "low", "high"] (spP R_is_whole)) : Cal P w K mg base 2 "need_place" ["web", "place"] (spP (R_need_place xa)) :=
  calP F sc_need_place bd_need_place (fun ds r ⟨_, _, e, _⟩ => by rw [e]; rfl) fun f cdv A outer s H E hr => by
  refine ⟨_, (pss_one (ps_if (pt_not (pt_val (pe_cal c_is_whole (hr.mono (by decide)) (by rfl) (pa_cons (pv 1) (pa_cons pe_int (pa_cons (pe_op op_sub (pe_ix (ixT (K := K) rfl) (pv 0) pe_int (fun _ _ => rfl)) pe_int) pa_nil)))))) (pss_one (ps_raiseC (E := E) x_InvalidPlace rfl (by rfl) (takesN rfl rfl rfl rfl))) pss_nil)), fun ds r ⟨v, d, e1, e2⟩ => ?_⟩
  subst e1 e2
  have t := et_not (et_B (ee_call (T := []) (E := E0) (R := R_is_whole) (ea_3 (ee_var (ρ := slots 2 [eW v, d]) (i := 1) rfl) (ee_int (i := 0)) (ee_op (ee_op (ee_var (i := 0) rfl) (ee_int (i := 0)) (re_ixT (K := K) (d := .int v.1) rfl)) (ee_int (i := 1)) re_sub)) ⟨d, 0, v.1 - 1, rfl, rfl⟩))
  cases h : wholeB d 0 (v.1 - 1) with
  | true =>
    rw [h] at t
    exact ⟨_, ss_if t (fun h => by cases h) (fun _ => ss_next), rfl⟩
  | false =>
    rw [h] at t
    exact ⟨_, ss_if t (fun _ => ss_raiseC) (fun h => by cases h), rfl⟩

end
end U
namespace U
open PySem L2 PyProof.Rows DL
open Evl (Ex)
open LamX (lamS_by)
section
variable {P : Program} {w : World} {K : PySem.W.Frag} {mg : Str → Option Value} {base : Heap} {xa : Str → Addr}
abbrev s_possible_numbers : Stmt := topS 34
theorem sc_possible_numbers : FnScope ["web", "place", "twins", "found", "numbering", "one"] ["web", "place"] (defScope s_possible_numbers) := ⟨rfl, rfl, rfl, by decide +kernel, rfl, by decide +kernel, by decide +kernel⟩
theorem bd_possible_numbers : BindsAs "possible_numbers" s_possible_numbers ["web", "place"] := fun _ _ _ _ _ _ us hl => match us, hl with | [_, _], _ => rfl

def posR (xa : XA) (d e : PyData) : Res := if webB d = true then (if wholeB e 0 ((toW d).1 - 1) = true then (if 9 < topW (toW d) then .ex (xa "TooMany") else .ok (eT (posN (toW d) (match e with | .int i => i | _ => 0)))) else .ex (xa "InvalidPlace")) else .ex (xa "InvalidWeb")
def R_possible_numbers (xa : XA) : List PyData → Res → Prop := fun ds r => ∃ d e, ds = [d, e] ∧ smallW d ∧ (webB d = true → topW (toW d) ≤ 9 → (toW d).1 ≤ 5 ∧ topW (toW d) ≤ 6) ∧ r = posR xa d e
theorem wholeP_iff {e : PyData} {lo hi : Int} : wholeB e lo hi = true ↔ ∃ i, e = .int i ∧ lo ≤ i ∧ i ≤ hi := by
  constructor
  · intro h
    unfold wholeB at h
    split at h
    · rw [Bool.and_eq_true, decide_eq_true_eq, decide_eq_true_eq] at h; exact ⟨_, rfl, h.1, h.2⟩
    · cases h
  · rintro ⟨i, rfl, h1, h2⟩
    unfold wholeB
    simp [h1, h2]
theorem ok_possible_numbers (F : Fn K mg "possible_numbers" s_possible_numbers) (B : Bt mg) (c_need_web : Cal P w K mg base 4 "need_web" ["web"] (spP (R_need_web xa))) (c_need_place : Cal P w K mg base 2 "need_place" ["web", "place"] (spP (R_need_place xa))) (c_need_few : Cal P w K mg base 2 "need_few" ["web"] (spP (R_need_few xa))) (c_are_twins : Cal P w K mg base 2 "are_twins" ["web", "one", "other"] (spP R_are_twins)) (c_all_from : Cal P w K mg base 4 "all_from" ["web", "top"] (spP R_all_from)) (c_top_of : Cal P w K mg base 1 "top_of" ["web"] (spP R_top_of)) : Cal P w K mg base 5 "possible_numbers" ["web", "place"] (spP (R_possible_numbers xa)) :=
  calP F sc_possible_numbers bd_possible_numbers (fun ds r ⟨_, _, e, _⟩ => by rw [e]; rfl) fun f cdv A outer s H E hr => by
  refine ⟨_, (pss_cons (ps_expr (pe_calX (E := E) c_need_web (hr.mono (by decide)) (by rfl) (takesN rfl rfl rfl rfl) (pa_cons (pv 0) pa_nil)))
      (pss_cons (ps_expr (pe_calX (E := E) c_need_place (hr.mono (by decide)) (by rfl) (takesN rfl rfl rfl rfl) (pa_cons (pv 0) (pa_cons (pv 1) pa_nil))))
      (pss_cons (ps_expr (pe_calX (E := E) c_need_few (hr.mono (by decide)) (by rfl) (takesN rfl rfl rfl rfl) (pa_cons (pv 0) pa_nil)))
      (PSs.nox (pss_cons (ps_setLc (i := 2) (own := [("one", 5)]) (g := (gName 5)) rfl sc_possible_numbers.nd rfl rfl (sw_true rfl rfl rfl (by decide +kernel)) (pi_range1 (by rfl) B.range (pa_cons (pe_ix (ixT (K := K) rfl) (pv 0) pe_int (fun _ _ => rfl)) pa_nil)) (blkOk_by (own := [("one", 5)]) (N := ["web", "place", "twins", "found", "numbering", "one"]) (sc := defScope s_possible_numbers) (by decide +kernel)) (fun _ _ _ _ _ => (pg_name (i := 5) sc_possible_numbers.nd rfl (Or.inl rfl))) (fun _ _ _ _ _ => (pts_one (PW.pt (pw_or (pt_cmpR op_eq (pv 5) (pv 1) (nomark _)) (pw_or1 (pt_val (pe_cal c_are_twins (hr.mono (by decide)) (by rfl) (pa_cons (pv 0) (pa_cons (pv 5) (pa_cons (pv 1) pa_nil)))))))))) (fun _ _ _ _ _ => (pv 5)))
      (pss_cons (ps_set (i := 3) sc_possible_numbers.nd rfl (Or.inl rfl) (pe_lst pa_nil))
      (pss_cons (ps_for PassesOwn.never rfl (piL (K := K) rfl (pe_cal c_all_from (hr.mono (by decide)) (by rfl) (pa_cons (pv 0) (pa_cons (pe_cal c_top_of (hr.mono (by decide)) (by rfl) (pa_cons (pv 0) pa_nil)) pa_nil)))) (pg_name (i := 4) sc_possible_numbers.nd rfl (Or.inr rfl)) (pss_one (ps_set (i := 3) sc_possible_numbers.nd rfl (Or.inl rfl) (pe_op op_cat (pv 3) (pe_lc (own := [("one", 5)]) (g := (gName 5)) (tt := tYes) rfl sc_possible_numbers.nd (piL (K := K) rfl (pv 2)) (blkOk_by (own := [("one", 5)]) (N := ["web", "place", "twins", "found", "numbering", "one"]) (sc := defScope s_possible_numbers) (by decide +kernel)) (fun _ _ _ _ _ => (pg_name (i := 5) sc_possible_numbers.nd rfl (Or.inl rfl))) (fun _ _ _ _ _ => pts_nil) (fun _ _ _ _ _ => (pe_ix (ixT (K := K) rfl) (pv 4) (pv 5) (fun _ _ => rfl))))))))
      (pss_one (ps_ret (pe_callTy (tupK (K := K) rfl) (by rfl) B.tuple bb_tuple (pa_cons (pe_callB (srtSK (w := w) rfl rfl) (by rfl) B.sorted bb_sorted (pa_cons (pe_callTy (setRK (K := K) (w := w) rfl rfl rfl) (by rfl) B.set bb_set (pa_cons (pv 3) pa_nil)) pa_nil)) pa_nil))))))))))), fun ds r ⟨d, y, e1, hsm, hs, e2⟩ => ?_⟩
  subst e1 e2
  unfold posR
  by_cases h : webB d = true
  · rw [if_pos h]
    have hs := hs h
    obtain ⟨v, rfl, ok⟩ := webB_iff.mp h
    have g := good_of ok
    have h15 := lines15 g
    have lo := g.lo
    rw [toW_eW] at hs ⊢
    have first := ss_drop (X := E) (ee_call (T := []) (E := E) (R := R_need_web xa) (ea_1 (ee_var (ρ := slots 6 [eW v, y]) (i := 0) rfl)) ⟨eW v, rfl, hsm, by unfold needWeb; rw [if_pos h]⟩)
    by_cases hy : wholeB y 0 (v.1 - 1) = true
    · rw [if_pos hy]
      have second := ss_drop (X := E) (ee_call (T := []) (E := E) (R := R_need_place xa) (ea_2 (ee_var (ρ := slots 6 [eW v, y]) (i := 0) rfl) (ee_var (i := 1) rfl)) ⟨v, y, rfl, by rw [if_pos hy]⟩)
      by_cases h9 : 9 < topW v
      · rw [if_pos h9]
        exact ⟨_, ss_seq first (ss_seq second (ss_seqX (ss_callX (ea_1 (ee_var rfl)) ⟨v, rfl, by rw [if_pos h9]⟩))), rfl⟩
      · rw [if_neg h9]
        obtain ⟨s5, s6⟩ := hs (by omega)
        have t0 : 0 ≤ topW v := by unfold topW; omega
        obtain ⟨p, rfl, p0, p1⟩ := wholeP_iff.mp hy
        have third := ss_drop (X := E) (ee_call (T := []) (E := E) (R := R_need_few xa) (ea_1 (ee_var (ρ := slots 6 [eW v, .int p]) (i := 0) rfl)) ⟨v, rfl, by rw [if_neg h9]⟩)
        have htl : (twL v p).length ≤ 6 := by
          unfold twL
          have := List.length_filter_le (fun o => decide (o = p) || twinN v o p) (ri 0 v.1.toNat)
          rw [ri_len] at this
          omega
        have ff := found_few g s5 (top := topW v) (p := p) (by omega) ⟨p0, by omega⟩
        have hdc : dcount (foundP v p (fromN v (topW v))) < 64 := by
          have := dcount_rg (t := topW v) fun k hk => pos_rg g (p := p) ⟨p0, by omega⟩ k ((pos_all g ⟨p0, by omega⟩ k).mp hk)
          omega
        show ∃ o, SS [] E _ _ o ∧ DL.Answers (.ok (eT (posN v p))) o
        refine ⟨_, ss_seq first (ss_seq second (ss_seq third (ss_seq (ss_set (el_lcR1p (n := v.1) (es := (twL v p).map PyData.int) (ea_1 (ee_w0 rfl)) (by omega) (lcr_filter PyData.int (fun o => decide (o = p) || twinN v o p) PyData.int (ri 0 v.1.toNat) fun o _ => lc1 (by intro _ _ h; cases h) (et_or (et_test (ee_op (ee_var rfl) (ee_var rfl) re_eqI)) (fun _ => et_B (ee_call (ea_3 (ee_var rfl) (ee_var rfl) (ee_var rfl)) ⟨v, o, p, rfl, by omega, rfl⟩))) (fun _ => ee_var rfl)) (by rw [List.length_map]; omega)).ee) (ss_seq (ss_set (el_lst ea_nil (by simp)).ee) (ss_seq (o := .rt (eT (posN v p)) _) (ρ1 := [.dat (eW v), .dat (.int p), .dat (eL (twL v p)), .dat (eL (foundP v p (fromN v (topW v)))), .no, .no]) (ss_forL (ee_call (ea_2 (ee_var rfl) (ee_call (ea_1 (ee_var rfl)) ⟨v, rfl, rfl⟩)) ⟨v, topW v, rfl, g, t0, by omega, pow_small s5 (by omega), rfl⟩) ?_) (ss_ret (ee_cb (ea_1 (el_sortedSet (ns := foundP v p (fromN v (topW v))) (ee_var rfl) (by omega) hdc).ee) rb_tupL))))))), rfl⟩
        refine forR_pre eT (fun pre => [.dat (eW v), .dat (.int p), .dat (eL (twL v p)), .dat (eL (foundP v p pre)), .no, .no]) (fromN v (topW v)) fun pr c post e => ?_
        have hlen := congrArg List.length e
        rw [List.length_append, List.length_cons] at hlen
        have hcl : c.length = v.1.toNat := by
          have : c ∈ fromN v (topW v) := by rw [e]; simp
          have := ((from_mem g).mp this).1.fit.len
          omega
        have hfl := found_len v p pr
        have hft := found_len v p (fromN v (topW v))
        have hle : pr.length * (twL v p).length ≤ (fromN v (topW v)).length * (twL v p).length := Nat.mul_le_mul_right _ (by omega)
        have esn : foundP v p (pr ++ [c]) = foundP v p pr ++ (twL v p).map (at0 c) := by unfold foundP; rw [List.foldl_append]; rfl
        rw [esn]
        refine ⟨_, eg_name, ss_forget (ss_set (el_op (es := (foundP v p pr ++ (twL v p).map (at0 c)).map PyData.int) (ee_var rfl) (el_lcLp (es := ((twL v p).map (at0 c)).map PyData.int) (ee_var rfl) (lcr_ints PyData.int (at0 c) (twL v p) fun o ho => lc1m (by intro _ _ h; cases h) (ee_op (ee_var rfl) (ee_var rfl) (re_ixT (at0_ok (twL_mem.mp ho).1.1 (by have := (twL_mem.mp ho).1.2; omega))))) (by rw [List.length_map, List.length_map]; omega)).ee (by rw [List.map_append]; exact rel_cat (by rw [List.length_map, List.length_map, List.length_map]; omega))).ee) (.same (.same (.same (.same (.no (.no .nil))))))⟩
    · rw [if_neg hy]
      exact ⟨_, ss_seq first (ss_seqX (ss_callX (ea_2 (ee_var rfl) (ee_var rfl)) ⟨v, y, rfl, by rw [if_neg hy]⟩)), rfl⟩
  · rw [if_neg h]
    exact ⟨_, ss_seqX (ss_callX (ea_1 (ee_var rfl)) ⟨d, rfl, hsm, by unfold needWeb; rw [if_neg h]⟩), rfl⟩

end
end U
/-! SumT: numberings by sums. -/
namespace U
open PySem L2 DL
def sumL (w : Wb) (b : List Int) (q : Int × Int) : Int := (at0 b q.1 + at0 b q.2) % topW w
def sumsN (w : Wb) (b : List Int) : List Int := w.2.map (sumL w b)
def sumsU (w : Wb) (b : List Int) : List Int := (w.2.filter fun q => decide (q.2 < (b.length : Int))).map (sumL w b)
def sdiffN (w : Wb) (b : List Int) : Bool := decide (dcount (sumsN w b) = w.2.length)
def okS (w : Wb) (b : List Int) (k : Int) : Bool := !b.contains k && decide (dcount (sumsU w (b ++ [k])) = (sumsU w (b ++ [k])).length)
def contN (w : Wb) : Nat → List Int → Option (List Int)
  | 0, b => if b.length = w.1.toNat then some b else none
  | d + 1, b => if b.length = w.1.toNat then some b else (ri 0 (topW w).toNat).findSome? fun k => if okS w b k = true then contN w d (b ++ [k]) else none
def firstS (w : Wb) : Option (List Int) := contN w w.1.toNat []
theorem sdiff_iff (w : Wb) (b : List Int) : sdiffN w b = true ↔ (sumsN w b).Nodup := by
  unfold sdiffN
  rw [decide_eq_true_eq, ← dcount_full]
  have : (sumsN w b).length = w.2.length := by unfold sumsN; rw [List.length_map]
  rw [this]
structure ValS (w : Wb) (c : List Int) : Prop where
  fit : FitsN w (topW w - 1) c
  ln : (sumsN w c).Nodup
structure PVS (w : Wb) (b : List Int) : Prop where
  rg : ∀ n ∈ b, 0 ≤ n ∧ n ≤ topW w - 1
  nd : b.Nodup
  ln : (sumsU w b).Nodup
theorem sumL_app {w : Wb} (g : GoodW w) {s b : List Int} {q : Int × Int} (hq : q ∈ w.2) (h : q.2 < (s.length : Int)) : sumL w (s ++ b) q = sumL w s q := by
  have := g.line q hq
  unfold sumL
  rw [at0_app (by omega) (by omega), at0_app (by omega) (by omega)]
theorem sumsU_sub {w : Wb} (g : GoodW w) (s b : List Int) : (sumsU w s).Sublist (sumsU w (s ++ b)) := by
  have e : sumsU w s = (((w.2.filter fun q => decide (q.2 < ((s ++ b).length : Int))).filter fun q => decide (q.2 < (s.length : Int))).map (sumL w (s ++ b))) := by
    unfold sumsU
    rw [List.filter_filter]
    have hf : (w.2.filter fun q => decide (q.2 < (s.length : Int)) && decide (q.2 < ((s ++ b).length : Int))) = w.2.filter fun q => decide (q.2 < (s.length : Int)) := by
      refine List.filter_congr fun q _ => ?_
      rw [List.length_append]
      by_cases z : q.2 < (s.length : Int)
      · rw [decide_eq_true z, decide_eq_true (show q.2 < ((s.length + b.length : Nat) : Int) by omega)]; rfl
      · rw [decide_eq_false z]; rfl
    rw [hf]
    refine List.map_congr_left fun q hq => ?_
    obtain ⟨h1, h2⟩ := List.mem_filter.mp hq
    exact (sumL_app g h1 (of_decide_eq_true h2)).symm
  rw [e]
  exact List.filter_sublist.map _
theorem PVS.take {w : Wb} (g : GoodW w) {s b : List Int} (h : PVS w (s ++ b)) : PVS w s :=
  ⟨fun n hn => h.rg n (List.mem_append_left _ hn), (List.nodup_append.mp h.nd).1, h.ln.sublist (sumsU_sub g s b)⟩
theorem okS_iff {w : Wb} {s : List Int} {n : Int} : okS w s n = true ↔ n ∉ s ∧ (sumsU w (s ++ [n])).Nodup := by
  unfold okS
  rw [Bool.and_eq_true, decide_eq_true_eq, dcount_full]
  simp
theorem pvs_snoc {w : Wb} (g : GoodW w) {s : List Int} {n : Int} : PVS w (s ++ [n]) ↔ PVS w s ∧ 0 ≤ n ∧ n ≤ topW w - 1 ∧ okS w s n = true := by
  constructor
  · intro h
    have r := h.rg n (by simp)
    have nd := List.nodup_append.mp h.nd
    exact ⟨h.take g, r.1, r.2, okS_iff.mpr ⟨fun hn => nd.2.2 n hn n (by simp) rfl, h.ln⟩⟩
  · rintro ⟨h, h0, h1, h2⟩
    obtain ⟨h3, h4⟩ := okS_iff.mp h2
    refine ⟨fun m hm => ?_, ?_, h4⟩
    · rcases List.mem_append.mp hm with z | z
      · exact h.rg m z
      · simp at z; subst z; exact ⟨h0, h1⟩
    · rw [List.nodup_append]
      refine ⟨h.nd, by simp, fun a ha b hb => ?_⟩
      simp at hb
      subst hb
      exact fun z => h3 (z ▸ ha)
theorem pvs_val {w : Wb} (g : GoodW w) {c : List Int} (hc : (c.length : Int) = w.1) : PVS w c ↔ ValS w c := by
  have e : sumsU w c = sumsN w c := by
    unfold sumsU sumsN
    rw [List.filter_eq_self.mpr]
    intro q hq
    have := g.line q hq
    exact decide_eq_true (by omega)
  constructor
  · intro h
    exact ⟨⟨hc, h.rg, h.nd⟩, by rw [← e]; exact h.ln⟩
  · intro h
    exact ⟨h.fit.rg, h.fit.nd, by rw [e]; exact h.ln⟩
def treeS (w : Wb) : Nat → List Int → List (List Int)
  | 0, b => if b.length = w.1.toNat then [b] else []
  | d + 1, b => if b.length = w.1.toNat then [b] else (ri 0 (topW w).toNat).flatMap fun k => if okS w b k = true then treeS w d (b ++ [k]) else []
theorem cont_head (w : Wb) : ∀ (d : Nat) (b : List Int), contN w d b = (treeS w d b).head?
  | 0, b => by unfold contN treeS; split <;> rfl
  | d + 1, b => by
    unfold contN treeS
    split
    · rfl
    · rw [List.head?_flatMap]
      congr 1
      funext k
      split
      · exact cont_head w d _
      · rfl
theorem treeS_pre (w : Wb) : ∀ (d : Nat) (b c : List Int), c ∈ treeS w d b → ∃ r, c = b ++ r
  | 0, b, c, h => by
    unfold treeS at h
    split at h
    · exact ⟨[], by simpa using h⟩
    · cases h
  | d + 1, b, c, h => by
    unfold treeS at h
    split at h
    · exact ⟨[], by simpa using h⟩
    · obtain ⟨k, hk, hc⟩ := List.mem_flatMap.mp h
      split at hc
      · obtain ⟨r, rfl⟩ := treeS_pre w d _ c hc
        exact ⟨k :: r, by simp⟩
      · cases hc
theorem treeS_sorted (w : Wb) : ∀ (d : Nat) (b : List Int), (treeS w d b).Pairwise Lx
  | 0, b => by
    unfold treeS
    split
    · exact List.pairwise_singleton _ _
    · exact List.Pairwise.nil
  | d + 1, b => by
    unfold treeS
    split
    · exact List.pairwise_singleton _ _
    · rw [List.flatMap_def, List.pairwise_flatten]
      refine ⟨fun l hl => ?_, ?_⟩
      · obtain ⟨k, _, rfl⟩ := List.mem_map.mp hl
        split
        · exact treeS_sorted w d _
        · exact List.Pairwise.nil
      · rw [List.pairwise_map]
        refine (ri_sorted _ _).imp fun {m n} h x hx y hy => ?_
        split at hx
        · split at hy
          · obtain ⟨r, rfl⟩ := treeS_pre w d _ x hx
            obtain ⟨s, rfl⟩ := treeS_pre w d _ y hy
            simp only [List.append_assoc, List.singleton_append]
            exact lx_lt b r s h
          · cases hy
        · cases hx
theorem treeS_mem {w : Wb} (g : GoodW w) : ∀ (d : Nat) (b : List Int), b.length + d = w.1.toNat → PVS w b → ∀ c, c ∈ treeS w d b ↔ (∃ r, c = b ++ r) ∧ ValS w c
  | 0, b, hd, pv, c => by
    have lo := g.lo
    have hl : b.length = w.1.toNat := by omega
    unfold treeS
    rw [if_pos hl, List.mem_singleton]
    constructor
    · rintro rfl
      exact ⟨⟨[], by simp⟩, (pvs_val g (by omega)).mp pv⟩
    · rintro ⟨⟨r, rfl⟩, v⟩
      have := v.fit.len
      rw [List.length_append] at this
      have hr : r = [] := List.eq_nil_of_length_eq_zero (by omega)
      rw [hr, List.append_nil]
  | d + 1, b, hd, pv, c => by
    have lo := g.lo
    unfold treeS
    rw [if_neg (by omega), List.mem_flatMap]
    constructor
    · rintro ⟨k, hk, hc⟩
      have hk := mem_ri.mp hk
      split at hc
      · rename_i hok
        have pv' := (pvs_snoc g (s := b) (n := k)).mpr ⟨pv, by omega, by omega, hok⟩
        obtain ⟨⟨r, rfl⟩, v⟩ := (treeS_mem g d (b ++ [k]) (by simp; omega) pv' c).mp hc
        exact ⟨⟨k :: r, by simp⟩, v⟩
      · cases hc
    · rintro ⟨⟨r, rfl⟩, v⟩
      cases r with
      | nil =>
        have := v.fit.len
        simp at this
        omega
      | cons k r =>
        have pvc : PVS w ((b ++ [k]) ++ r) := by
          have := (pvs_val g v.fit.len).mpr v
          simpa using this
        have pv' := pvc.take g
        obtain ⟨_, h0, h1, h2⟩ := (pvs_snoc g).mp pv'
        refine ⟨k, mem_ri.mpr (by omega), ?_⟩
        rw [if_pos h2]
        exact (treeS_mem g d (b ++ [k]) (by simp; omega) pv' _).mpr ⟨⟨r, by simp⟩, v⟩
/-! ### all of the law -/
def extP (m : Int) (s : List Int) : List (List Int) := ((ri 0 m.toNat).filter fun n => !s.contains n).map fun n => s ++ [n]
def permStep (m : Int) (f : List (List Int)) : List (List Int) := f.foldl (fun l s => l ++ extP m s) []
def permN (m : Int) (ps : List Int) : List (List Int) := ps.foldl (fun f _ => permStep m f) [[]]
def allS (w : Wb) : List (List Int) := (permN (topW w) (ri 0 w.1.toNat)).filter (sdiffN w)
theorem permStep_flat (m : Int) (f : List (List Int)) : permStep m f = f.flatMap (extP m) := by
  unfold permStep
  rw [fold_app_eq, List.nil_append]
theorem mem_extP {m : Int} {s t : List Int} : t ∈ extP m s ↔ ∃ n, t = s ++ [n] ∧ 0 ≤ n ∧ n ≤ m - 1 ∧ n ∉ s := by
  unfold extP
  rw [List.mem_map]
  constructor
  · rintro ⟨n, hn, rfl⟩
    obtain ⟨h1, h2⟩ := List.mem_filter.mp hn
    have := mem_ri.mp h1
    exact ⟨n, rfl, by omega, by omega, by simpa using h2⟩
  · rintro ⟨n, rfl, h0, h1, h2⟩
    exact ⟨n, List.mem_filter.mpr ⟨mem_ri.mpr (by omega), by simpa using h2⟩, rfl⟩
theorem permN_spec (m : Int) : ∀ ps : List Int, (∀ c, c ∈ permN m ps ↔ c.length = ps.length ∧ (∀ n ∈ c, 0 ≤ n ∧ n ≤ m - 1) ∧ c.Nodup) ∧ (permN m ps).Pairwise Lx := by
  have key : ∀ (ps : List Int) (k : Nat) (f : List (List Int)), (∀ c, c ∈ f ↔ c.length = k ∧ (∀ n ∈ c, 0 ≤ n ∧ n ≤ m - 1) ∧ c.Nodup) → f.Pairwise Lx →
      (∀ c, c ∈ ps.foldl (fun f _ => permStep m f) f ↔ c.length = k + ps.length ∧ (∀ n ∈ c, 0 ≤ n ∧ n ≤ m - 1) ∧ c.Nodup) ∧ (ps.foldl (fun f _ => permStep m f) f).Pairwise Lx := by
    intro ps
    induction ps with
    | nil => exact fun k f h s => ⟨by simpa using h, s⟩
    | cons p ps ih =>
      intro k f h s
      rw [List.foldl_cons]
      have := ih (k + 1) (permStep m f) (fun c => ?_) ?_
      · rw [List.length_cons, show k + (ps.length + 1) = k + 1 + ps.length by omega]; exact this
      · rw [permStep_flat, List.mem_flatMap]
        constructor
        · rintro ⟨t, ht, hc⟩
          obtain ⟨n, rfl, h0, h1, h2⟩ := mem_extP.mp hc
          obtain ⟨a1, a2, a3⟩ := (h t).mp ht
          refine ⟨by simp [a1], fun x hx => ?_, ?_⟩
          · rcases List.mem_append.mp hx with z | z
            · exact a2 x z
            · simp at z; subst z; exact ⟨h0, h1⟩
          · rw [List.nodup_append]
            refine ⟨a3, by simp, fun a ha b hb => ?_⟩
            simp at hb; subst hb
            exact fun z => h2 (z ▸ ha)
        · rintro ⟨a1, a2, a3⟩
          obtain ⟨t, n, rfl, hl⟩ := snoc_of a1
          have nd := List.nodup_append.mp a3
          have r := a2 n (by simp)
          exact ⟨t, (h t).mpr ⟨hl, fun x hx => a2 x (List.mem_append_left _ hx), nd.1⟩, mem_extP.mpr ⟨n, rfl, r.1, r.2, fun hn => nd.2.2 n hn n (by simp) rfl⟩⟩
      · rw [permStep_flat, List.flatMap_def, List.pairwise_flatten]
        refine ⟨fun l hl => ?_, ?_⟩
        · obtain ⟨t, _, rfl⟩ := List.mem_map.mp hl
          unfold extP
          rw [List.pairwise_map]
          exact ((ri_sorted _ _).filter _).imp fun hh => lx_lt t [] [] hh
        · rw [List.pairwise_map]
          refine List.Pairwise.imp_of_mem ?_ s
          intro a b ha hb hab x hx y hy
          obtain ⟨n, rfl, _⟩ := mem_extP.mp hx
          obtain ⟨n', rfl, _⟩ := mem_extP.mp hy
          exact lx_same _ _ (((h a).mp ha).1.trans ((h b).mp hb).1.symm) hab
  intro ps
  have := key ps 0 [[]] (fun c => ?_) (List.pairwise_singleton _ _)
  · rw [Nat.zero_add] at this; exact this
  · constructor
    · intro h; simp at h; subst h; simp
    · rintro ⟨h, _, _⟩
      have : c = [] := List.eq_nil_of_length_eq_zero h
      rw [this]; simp
theorem allS_mem {w : Wb} (g : GoodW w) {c : List Int} : c ∈ allS w ↔ ValS w c := by
  have lo := g.lo
  unfold allS
  rw [List.mem_filter, (permN_spec (topW w) (ri 0 w.1.toNat)).1 c, sdiff_iff, ri_len]
  constructor
  · rintro ⟨⟨h1, h2, h3⟩, h4⟩
    exact ⟨⟨by omega, h2, h3⟩, h4⟩
  · intro h
    exact ⟨⟨by have := h.fit.len; omega, h.fit.rg, h.fit.nd⟩, h.ln⟩
theorem allS_sorted (w : Wb) : (allS w).Pairwise Lx := (permN_spec (topW w) (ri 0 w.1.toNat)).2.filter _
theorem firstS_is {w : Wb} (g : GoodW w) : firstS w = (allS w).head? := by
  unfold firstS
  rw [cont_head]
  have pv0 : PVS w [] := ⟨(fun _ h => by cases h), List.nodup_nil, by
    have : sumsU w [] = [] := by
      unfold sumsU
      rw [List.map_eq_nil_iff, List.filter_eq_nil_iff]
      intro q hq
      have := g.line q hq
      simp; omega
    rw [this]; exact List.nodup_nil⟩
  have hm := treeS_mem g w.1.toNat [] (by simp) pv0
  refine head_same (treeS_sorted w _ _) (allS_sorted w) (fun c hc => (allS_mem g).mpr ((hm c).mp hc).2) fun c hc => (hm c).mpr ⟨⟨c, by simp⟩, (allS_mem g).mp (List.mem_of_head? hc)⟩
theorem firstS_none {w : Wb} (g : GoodW w) : (firstS w).isNone = true ↔ ∀ c, ¬ ValS w c := by
  rw [firstS_is g, Option.isNone_iff_eq_none, List.head?_eq_none_iff]
  constructor
  · intro h c v
    have := (allS_mem g).mpr v
    rw [h] at this
    cases this
  · intro h
    exact List.eq_nil_iff_forall_not_mem.mpr fun c hc => h c ((allS_mem g).mp hc)
theorem firstS_some {w : Wb} (g : GoodW w) {c : List Int} (h : firstS w = some c) : ValS w c := by
  rw [firstS_is g] at h
  exact (allS_mem g).mp (List.mem_of_head? h)
theorem permStep_len (m : Int) (f : List (List Int)) : (permStep m f).length ≤ f.length * m.toNat := by
  rw [permStep_flat, List.flatMap_def]
  refine flat_len _ _ (fun s => ?_) f
  unfold extP
  rw [List.length_map]
  have := List.length_filter_le (fun n => !s.contains n) (ri 0 m.toNat)
  rw [ri_len] at this
  exact this
theorem permN_len (m : Int) : ∀ (ps : List Int) (f : List (List Int)), (ps.foldl (fun f _ => permStep m f) f).length ≤ f.length * m.toNat ^ ps.length
  | [], f => by simp
  | p :: ps, f => by
    have h1 := permStep_len m f
    have h2 := permN_len m ps (permStep m f)
    rw [List.foldl_cons, List.length_cons, Nat.pow_succ, Nat.mul_comm (m.toNat ^ ps.length), ← Nat.mul_assoc]
    exact Nat.le_trans h2 (Nat.mul_le_mul_right _ h1)
end U
namespace DL
open PySem L2 U
open Evl (Ex)
section
variable {T : TL} {X : XK} {t u t0 : TS} {g : TG} {ρ : List Sl} {ta : TA}
theorem forR_find {α : Type} {P : PyData → List Sl → Out → Prop} (enc : α → PyData) (f : α → Option (List Int)) : ∀ xs : List α, (∀ x ∈ xs, ∃ o, P (enc x) ρ o ∧ match f x with | none => o = .nx ρ | some c => ∃ ρ', o = .rt (eT c) ρ') →
    ∃ o, ForR P (xs.map enc) ρ o ∧ match xs.findSome? f with | none => o = .nx ρ | some c => ∃ ρ', o = .rt (eT c) ρ'
  | [], _ => ⟨_, .nil, rfl⟩
  | x :: xs, h => by
    obtain ⟨o, ho, hm⟩ := h x List.mem_cons_self
    rw [List.findSome?_cons]
    cases hf : f x with
    | none =>
      rw [hf] at hm
      subst hm
      obtain ⟨o', h1, h2⟩ := forR_find enc f xs fun y hy => h y (List.mem_cons_of_mem _ hy)
      exact ⟨o', .next ho h1, h2⟩
    | some c =>
      rw [hf] at hm
      obtain ⟨ρ', rfl⟩ := hm
      exact ⟨_, .stop ho, _, rfl⟩
/-- a loop that looks for the first, and None behind it -/
theorem find_end {n : Int} {f : Int → Option (List Int)} (h0 : SS T X t0 ρ (.nx ρ)) (h : EA T ta ρ [.int n] ρ) (hn : -100000 ≤ n ∧ n ≤ 100000) (turn : ∀ x ∈ ri 0 n.toNat, ∃ o, TurnD T X g t (.int x) ρ o ∧ match f x with | none => o = .nx ρ | some c => ∃ ρ', o = .rt (eT c) ρ') (rest : SS T X u ρ (.rt .none ρ)) :
    ∃ o, SS T X (tSeq t0 (tSeq (tFor (iRng1 ta) g t) u)) ρ o ∧ DL.Answers (.ok (optD ((ri 0 n.toNat).findSome? f))) o := by
  obtain ⟨o, h1, h2⟩ := forR_find (P := TurnD T X g t) PyData.int f (ri 0 n.toNat) turn
  cases hf : (ri 0 n.toNat).findSome? f with
  | none =>
    rw [hf] at h2
    subst h2
    exact ⟨_, ss_seq h0 (ss_seq (ss_forR1i h hn h1) rest), rfl⟩
  | some c =>
    rw [hf] at h2
    obtain ⟨ρ', rfl⟩ := h2
    exact ⟨_, ss_seq h0 (ss_seqR (ss_forR1i h hn h1)), rfl⟩
end
end DL
namespace U
open PySem L2 PyProof.Rows DL
open Evl (Ex)
open LamX (lamS_by)
section
variable {P : Program} {w : World} {K : PySem.W.Frag} {mg : Str → Option Value} {base : Heap} {xa : Str → Addr}
abbrev s_need_lines : Stmt := topS 37
theorem sc_need_lines : FnScope ["web"] ["web"] (defScope s_need_lines) := ⟨rfl, rfl, rfl, by decide +kernel, rfl, by decide +kernel, by decide +kernel⟩
theorem bd_need_lines : BindsAs "need_lines" s_need_lines ["web"] := fun _ _ _ _ _ _ us hl => match us, hl with | [_], _ => rfl

def needLines (xa : XA) (d : PyData) : Res := if webB d = true then (if (toW d).2 = [] then .ex (xa "NoLines") else .ok .none) else .ex (xa "InvalidWeb")
def R_need_lines (xa : XA) : List PyData → Res → Prop := fun ds r => ∃ d, ds = [d] ∧ smallW d ∧ r = needLines xa d
theorem ok_need_lines (F : Fn K mg "need_lines" s_need_lines) (B : Bt mg) (x_NoLines : Xc K mg "NoLines" (xa "NoLines")) (c_need_web : Cal P w K mg base 4 "need_web" ["web"] (spP (R_need_web xa))) : Cal P w K mg base 5 "need_lines" ["web"] (spP (R_need_lines xa)) :=
  calP F sc_need_lines bd_need_lines (fun ds r ⟨_, e, _⟩ => by rw [e]; rfl) fun f cdv A outer s H E hr => by
  refine ⟨_, (pss_cons (ps_expr (pe_calX (E := E) c_need_web (hr.mono (by decide)) (by rfl) (takesN rfl rfl rfl rfl) (pa_cons (pv 0) pa_nil)))
      (pss_one (ps_if (pt_cmpR (eqDK (K := K) rfl (hu64 hr)) (pe_ix (ixT (K := K) rfl) (pv 0) pe_int (fun _ _ => rfl)) (pe_tup pa_nil) (nomark _)) (pss_one (ps_raiseC (E := E) x_NoLines rfl (by rfl) (takesN rfl rfl rfl rfl))) pss_nil))), fun ds r ⟨d, e1, hsm, e2⟩ => ?_⟩
  subst e1 e2
  unfold needLines
  by_cases h : webB d = true
  · rw [if_pos h]
    obtain ⟨v, rfl, ok⟩ := webB_iff.mp h
    rw [toW_eW]
    have first := ss_drop (X := E) (ee_call (T := []) (E := E) (R := R_need_web xa) (ea_1 (ee_var (ρ := slots 1 [eW v]) (i := 0) rfl)) ⟨eW v, rfl, hsm, by unfold needWeb; rw [if_pos h]⟩)
    have t := et_test (T := []) (ee_op (ee_w1 (K := K) (ρ := slots 1 [eW v]) (i := 0) (v := v) rfl) (ee_tup ea_nil (by simp)) (re_eqD (K := K) (sh_ePs _) sh_niT))
    rw [show PyData.tuple [] = ePs [] from rfl, eqv_ePs] at t
    by_cases hl : v.2 = []
    · rw [if_pos hl]
      rw [decide_eq_true hl] at t
      exact ⟨_, ss_seq first (ss_if t (fun _ => ss_raiseC) (fun h => by cases h)), rfl⟩
    · rw [if_neg hl]
      rw [decide_eq_false hl] at t
      exact ⟨_, ss_seq first (ss_if t (fun h => by cases h) (fun _ => ss_next)), rfl⟩
  · rw [if_neg h]
    exact ⟨_, ss_seqX (ss_callX (ea_1 (ee_var rfl)) ⟨d, rfl, hsm, by unfold needWeb; rw [if_neg h]⟩), rfl⟩

end
end U
namespace U
open PySem L2 PyProof.Rows DL
open Evl (Ex)
open LamX (lamS_by)
section
variable {P : Program} {w : World} {K : PySem.W.Frag} {mg : Str → Option Value} {base : Heap} {xa : Str → Addr}
abbrev s_sums_used : Stmt := topS 38
theorem sc_sums_used : FnScope ["web", "begun", "many", "first", "last"] ["web", "begun"] (defScope s_sums_used) := ⟨rfl, rfl, rfl, by decide +kernel, rfl, by decide +kernel, by decide +kernel⟩
theorem bd_sums_used : BindsAs "sums_used" s_sums_used ["web", "begun"] := fun _ _ _ _ _ _ us hl => match us, hl with | [_, _], _ => rfl

def R_sums_used : List PyData → Res → Prop := fun ds r => ∃ (v : Wb) (b : List Int), ds = [eW v, eT b] ∧ GoodW v ∧ 0 < v.2.length ∧ r = .ok (eL (sumsU v b))
theorem sumsU_len (v : Wb) (b : List Int) : (sumsU v b).length ≤ v.2.length := by unfold sumsU; rw [List.length_map]; exact List.length_filter_le _ _
theorem ok_sums_used (F : Fn K mg "sums_used" s_sums_used) (B : Bt mg) (c_top_of : Cal P w K mg base 1 "top_of" ["web"] (spP R_top_of)) : Cal P w K mg base 2 "sums_used" ["web", "begun"] (spP R_sums_used) :=
  calQ F sc_sums_used bd_sums_used (fun ds r ⟨_, _, e, _⟩ => by rw [e]; rfl) fun f cdv A outer s H E hr => by
  refine ⟨_, (pss_cons (ps_set (i := 2) sc_sums_used.nd rfl (Or.inr rfl) (pe_cal c_top_of (hr.mono (by decide)) (by rfl) (pa_cons (pv 0) pa_nil)))
      (pss_one (ps_ret (pe_lc (own := [("first", 3), ("last", 4)]) (g := (gTup K 2 (gCons (gName 3) (gCons (gName 4) gNil)))) rfl sc_sums_used.nd (piT (K := K) rfl (pe_ix (ixT (K := K) rfl) (pv 0) pe_int (fun _ _ => rfl))) (blkOk_by (own := [("first", 3), ("last", 4)]) (N := ["web", "begun", "many", "first", "last"]) (sc := defScope s_sums_used) (by decide +kernel)) (fun _ _ _ _ _ => (pgT (K := K) rfl rfl (pgs_cons (pg_name (i := 3) sc_sums_used.nd rfl (Or.inl rfl)) (pgs_cons (pg_name (i := 4) sc_sums_used.nd rfl (Or.inl rfl)) pgs_nil)))) (fun _ _ _ _ _ => (pts_one (pt_cmpR op_lt (pv 4) (pe_callB (lenK (K := K) rfl) (by rfl) B.len bb_len (pa_cons (pv 1) pa_nil)) (nomark _)))) (fun _ _ _ _ _ => (pe_op op_mod (pe_op op_add (pe_ix (ixT (K := K) rfl) (pv 1) (pv 3) (fun _ _ => rfl)) (pe_ix (ixT (K := K) rfl) (pv 1) (pv 4) (fun _ _ => rfl))) (pv 2))))))), fun ds r ⟨v, b, e1, g, hp, e2⟩ => ?_⟩
  subst e1 e2
  have hz : 0 < topW v := by unfold topW; omega
  have h15 := lines15 g
  have hul := sumsU_len v b
  refine ⟨_, ss_seq (ss_set (ee_call (ea_1 (ee_var rfl)) ⟨v, rfl, rfl⟩)) (ss_ret (el_lcTp (es := (sumsU v b).map PyData.int) (ee_w1 rfl) ?_ (by rw [List.length_map]; omega)).ee), rfl⟩
  unfold sumsU
  rw [List.map_map]
  refine lcr_filter eP (fun q => decide (q.2 < (b.length : Int))) (fun q => .int (sumL v b q)) v.2 fun q hq => lc2 (by decide) (by intro _ _ h; cases h) (by intro _ _ h; cases h) (et_test (ee_op (ee_var rfl) (ee_lenT (enc := PyData.int) (ee_var rfl)) re_lt)) (fun hb => ?_)
  have lq := g.line q hq
  have hb := of_decide_eq_true hb
  exact ee_op (ee_op (ee_op (ee_var rfl) (ee_var rfl) (re_ixT (at0_ok (by omega) (by omega)))) (ee_op (ee_var rfl) (ee_var rfl) (re_ixT (at0_ok (by omega) (by omega)))) re_add) (ee_var rfl) (re_mod hz)

end
end U
namespace U
open PySem L2 PyProof.Rows DL
open Evl (Ex)
open LamX (lamS_by)
section
variable {P : Program} {w : World} {K : PySem.W.Frag} {mg : Str → Option Value} {base : Heap} {xa : Str → Addr}
abbrev s_continued : Stmt := topS 39
theorem sc_continued : FnScope ["web", "begun", "number", "used", "found"] ["web", "begun"] (defScope s_continued) := ⟨rfl, rfl, rfl, by decide +kernel, rfl, by decide +kernel, by decide +kernel⟩
theorem bd_continued : BindsAs "continued" s_continued ["web", "begun"] := fun _ _ _ _ _ _ us hl => match us, hl with | [_, _], _ => rfl

/-- d: one more than the places left -/
def R_continued (d : Nat) : List PyData → Res → Prop := fun ds r => ∃ (v : Wb) (b : List Int), ds = [eW v, eT b] ∧ GoodW v ∧ 0 < v.2.length ∧ b.length ≤ v.1.toNat ∧ v.1.toNat + 1 ≤ b.length + d ∧ r = .ok (optD (contN v (v.1.toNat - b.length) b))
theorem step_continued {k d : Nat} (F : Fn K mg "continued" s_continued) (B : Bt mg) (c_top_of : Cal P w K mg base 1 "top_of" ["web"] (spP R_top_of)) (c_sums_used : Cal P w K mg base 2 "sums_used" ["web", "begun"] (spP R_sums_used)) (c_continued : Cal P w K mg base k "continued" ["web", "begun"] (spP (R_continued d))) (hk : 2 ≤ k) :
    Cal P w K mg base (k + 1) "continued" ["web", "begun"] (spP (R_continued (d + 1))) :=
  calQ F sc_continued bd_continued (fun ds r ⟨_, _, e, _⟩ => by rw [e]; rfl) fun f cdv A outer s H E hr => by
  refine ⟨_, (pss_cons (ps_if (pt_cmpR op_eq (pe_callB (lenK (K := K) rfl) (by rfl) B.len bb_len (pa_cons (pv 1) pa_nil)) (pe_ix (ixT (K := K) rfl) (pv 0) pe_int (fun _ _ => rfl)) (nomark _)) (pss_one (ps_ret (pv 1))) pss_nil)
      (pss_cons (ps_for PassesOwn.never rfl (pi_range1 (by rfl) B.range (pa_cons (pe_cal c_top_of (hr.mono (by omega)) (by rfl) (pa_cons (pv 0) pa_nil)) pa_nil)) (pg_name (i := 2) sc_continued.nd rfl (Or.inl rfl)) (pss_one (ps_if (pt_cmpR (niK (K := K) rfl) (pv 2) (pv 1) (by rfl)) (pss_cons (ps_set (i := 3) sc_continued.nd rfl (Or.inl rfl) (pe_cal c_sums_used (hr.mono (by omega)) (by rfl) (pa_cons (pv 0) (pa_cons (pe_op (catAK (K := K) rfl) (pv 1) (pe_tup (pa_cons (pv 2) pa_nil))) pa_nil))))
      (pss_one (ps_if (pt_cmpR op_eq (pe_callB cr_lenS (by rfl) B.len bb_len (pa_cons (pe_callTy (setK (K := K) rfl rfl) (by rfl) B.set bb_set (pa_cons (pv 3) pa_nil)) pa_nil)) (pe_callB (lenK (K := K) rfl) (by rfl) B.len bb_len (pa_cons (pv 3) pa_nil)) (nomark _)) (pss_cons (ps_set (i := 4) sc_continued.nd rfl (Or.inl rfl) (pe_cal c_continued (hr.mono (by omega)) (by rfl) (pa_cons (pv 0) (pa_cons (pe_op (catAK (K := K) rfl) (pv 1) (pe_tup (pa_cons (pv 2) pa_nil))) pa_nil))))
      (pss_one (ps_if (pt_cmpR op_notN (pv 4) pe_non (nomark _)) (pss_one (ps_ret (pv 4))) pss_nil))) pss_nil))) pss_nil)))
      (pss_one (ps_ret pe_non)))), fun ds r ⟨v, b, e1, g, hp, hl, hd, e2⟩ => ?_⟩
  subst e1 e2
  have lo := g.lo
  have hi := g.hi
  have h15 := lines15 g
  have tt := et_test (T := []) (ee_op (ee_lenT (K := K) (enc := PyData.int) (ee_var (ρ := slots 5 [eW v, eT b]) (i := 1) rfl)) (ee_w0 (K := K) (v := v) (i := 0) rfl) re_eqI)
  by_cases he : b.length = v.1.toNat
  · have er : contN v (v.1.toNat - b.length) b = some b := by
      cases v.1.toNat - b.length <;> exact if_pos he
    rw [er]
    exact ⟨_, ss_seqR (ss_if (tt.is (decide_eq_true (by omega))) (fun _ => ss_ret (ee_var rfl)) (fun h => by cases h)), rfl⟩
  obtain ⟨m, hm⟩ : ∃ m, v.1.toNat - b.length = m + 1 := ⟨v.1.toNat - b.length - 1, by omega⟩
  have er : contN v (v.1.toNat - b.length) b = (ri 0 (topW v).toNat).findSome? fun k => if okS v b k = true then contN v m (b ++ [k]) else none := by
    rw [hm]; exact if_neg he
  rw [er]
  refine find_end (n := topW v) (f := fun k => if okS v b k = true then contN v m (b ++ [k]) else none) (ρ := slots 5 [eW v, eT b]) (ss_if (tt.is (decide_eq_false (by omega))) (fun h => by cases h) (fun _ => ss_next)) (ea_1 (ee_call (ea_1 (ee_var rfl)) ⟨v, rfl, rfl⟩)) (by unfold topW; omega) (fun x hx => ?_) (ss_ret ee_non)
  have cat : ∀ (ρ : List Sl), ρ[1]? = some (.dat (eT b)) → ρ[2]? = some (.dat (.int x)) → EE [] (tOp (rCatA K) (tVar 1) (tTup (tCons (tVar 2) tNil))) ρ (eT (b ++ [x])) ρ := fun ρ h1 h2 => by
    have := ee_op (T := []) (ee_var h1) (ee_tup (ea_1 (ee_var h2)) (by simp)) (re_catT (K := K) (ds := b.map PyData.int) (es := [.int x]) (by simp; omega))
    rw [show b.map PyData.int ++ [PyData.int x] = (b ++ [x]).map PyData.int by rw [List.map_append]; rfl] at this
    exact this
  have tin := et_test (T := []) (ee_op (ee_var (ρ := [.dat (eW v), .dat (eT b), .dat (.int x), .no, .no]) (i := 2) rfl) (ee_var (i := 1) rfl) (re_niT (K := K)))
  have wk : ∀ {a c : Sl}, Weaker [.dat (eW v), .dat (eT b), .dat (.int x), a, c] (slots 5 [eW v, eT b]) := fun {a c} => .same (.same (.no (.no (.no .nil))))
  have hul := sumsU_len v (b ++ [x])
  cases hc : b.contains x with
  | true =>
    rw [hc] at tin
    refine ⟨_, ⟨_, eg_name, ss_forget (ss_no tin) wk⟩, ?_⟩
    have : okS v b x = false := by unfold okS; rw [hc]; rfl
    simp only [this, Bool.false_eq_true, if_false]
  | false =>
    rw [hc] at tin
    have su := ss_set (T := []) (X := E) (i := 3) (ee_call (E := E0) (R := R_sums_used) (ea_2 (ee_var (ρ := [.dat (eW v), .dat (eT b), .dat (.int x), .no, .no]) (i := 0) rfl) (cat _ rfl rfl)) ⟨v, b ++ [x], rfl, g, hp, rfl⟩)
    have tl := et_test (T := []) (ee_op (ee_lenSetL (K := K) (ee_var (ρ := [.dat (eW v), .dat (eT b), .dat (.int x), .dat (eL (sumsU v (b ++ [x]))), .no]) (i := 3) rfl) (by omega)) (ee_lenL (K := K) (enc := PyData.int) (ee_var (i := 3) rfl)) re_eqI)
    have ek : okS v b x = decide ((dcount (sumsU v (b ++ [x])) : Int) = ((sumsU v (b ++ [x])).length : Int)) := by
      unfold okS; rw [hc, Bool.not_false, Bool.true_and, decide_eq_decide]; omega
    rw [← ek] at tl
    cases ho : okS v b x with
    | false =>
      rw [ho] at tl
      refine ⟨_, ⟨_, eg_name, ss_forget (ss_if tin (fun _ => ss_seq su (ss_no tl)) (fun h => by cases h)) wk⟩, ?_⟩
      simp only [Bool.false_eq_true, if_false]
    | true =>
      rw [ho] at tl
      have sc := ss_set (T := []) (X := E) (i := 4) (ee_call (E := E0) (R := R_continued d) (ea_2 (ee_var (ρ := [.dat (eW v), .dat (eT b), .dat (.int x), .dat (eL (sumsU v (b ++ [x]))), .no]) (i := 0) rfl) (cat _ rfl rfl)) ⟨v, b ++ [x], rfl, g, hp, by simp; omega, by simp; omega, by rw [show v.1.toNat - (b ++ [x]).length = m by simp; omega]⟩)
      simp only [if_true]
      cases hf : contN v m (b ++ [x]) with
      | none =>
        rw [hf] at sc
        exact ⟨_, ⟨_, eg_name, ss_forget (ss_if tin (fun _ => ss_seq su (ss_if tl (fun _ => ss_seq sc (ss_no (et_test (ee_op (ee_var rfl) ee_non re_notN)))) (fun h => by cases h))) (fun h => by cases h)) wk⟩, rfl⟩
      | some c =>
        rw [hf] at sc
        exact ⟨_, ⟨_, eg_name, ss_if tin (fun _ => ss_seq su (ss_if tl (fun _ => ss_seq sc (ss_if (et_test (ee_op (ee_var rfl) ee_non re_notN)) (fun _ => ss_ret (ee_var rfl)) (fun h => by cases h))) (fun h => by cases h))) (fun h => by cases h)⟩, _, rfl⟩
theorem ok_continued (F : Fn K mg "continued" s_continued) (B : Bt mg) (c_top_of : Cal P w K mg base 1 "top_of" ["web"] (spP R_top_of)) (c_sums_used : Cal P w K mg base 2 "sums_used" ["web", "begun"] (spP R_sums_used)) : Cal P w K mg base 10 "continued" ["web", "begun"] (spP (R_continued 7)) := by
  have c0 : Cal P w K mg base 3 "continued" ["web", "begun"] (spP (R_continued 0)) := cal_void F bd_continued fun ds r ⟨_, _, _, _, _, h1, h2, _⟩ => by omega
  exact step_continued F B c_top_of c_sums_used (step_continued F B c_top_of c_sums_used (step_continued F B c_top_of c_sums_used (step_continued F B c_top_of c_sums_used (step_continued F B c_top_of c_sums_used (step_continued F B c_top_of c_sums_used (step_continued F B c_top_of c_sums_used c0 (by decide)) (by decide)) (by decide)) (by decide)) (by decide)) (by decide)) (by decide)

end
end U
namespace U
open PySem L2 PyProof.Rows DL
open Evl (Ex)
open LamX (lamS_by)
section
variable {P : Program} {w : World} {K : PySem.W.Frag} {mg : Str → Option Value} {base : Heap} {xa : Str → Addr}
abbrev s_first_sum_good : Stmt := topS 40
theorem sc_first_sum_good : FnScope ["web"] ["web"] (defScope s_first_sum_good) := ⟨rfl, rfl, rfl, by decide +kernel, rfl, by decide +kernel, by decide +kernel⟩
theorem bd_first_sum_good : BindsAs "first_sum_good" s_first_sum_good ["web"] := fun _ _ _ _ _ _ us hl => match us, hl with | [_], _ => rfl

def firstSR (xa : XA) (d : PyData) : Res := if webB d = true then (if (toW d).2 = [] then .ex (xa "NoLines") else .ok (optD (firstS (toW d)))) else .ex (xa "InvalidWeb")
def R_first_sum_good (xa : XA) : List PyData → Res → Prop := fun ds r => ∃ d, ds = [d] ∧ smallW d ∧ r = firstSR xa d
theorem ok_first_sum_good (F : Fn K mg "first_sum_good" s_first_sum_good) (B : Bt mg) (c_need_lines : Cal P w K mg base 5 "need_lines" ["web"] (spP (R_need_lines xa))) (c_continued : Cal P w K mg base 10 "continued" ["web", "begun"] (spP (R_continued 7))) : Cal P w K mg base 11 "first_sum_good" ["web"] (spP (R_first_sum_good xa)) :=
  calP F sc_first_sum_good bd_first_sum_good (fun ds r ⟨_, e, _⟩ => by rw [e]; rfl) fun f cdv A outer s H E hr => by
  refine ⟨_, (pss_cons (ps_expr (pe_calX (E := E) c_need_lines (hr.mono (by decide)) (by rfl) (takesN rfl rfl rfl rfl) (pa_cons (pv 0) pa_nil)))
      (PSs.nox (pss_one (ps_ret (pe_cal c_continued (hr.mono (by decide)) (by rfl) (pa_cons (pv 0) (pa_cons (pe_tup pa_nil) pa_nil))))))), fun ds r ⟨d, e1, hsm, e2⟩ => ?_⟩
  subst e1 e2
  unfold firstSR
  by_cases h : webB d = true
  · rw [if_pos h]
    obtain ⟨v, rfl, ok⟩ := webB_iff.mp h
    have g := good_of ok
    have hi := g.hi
    rw [toW_eW]
    by_cases hl : v.2 = []
    · rw [if_pos hl]
      exact ⟨_, ss_seqX (ss_callX (ea_1 (ee_var rfl)) ⟨eW v, rfl, hsm, by unfold needLines; rw [if_pos h, toW_eW, if_pos hl]⟩), rfl⟩
    · rw [if_neg hl]
      have hpos : 0 < v.2.length := List.length_pos_iff.mpr hl
      exact ⟨_, ss_seq (ss_drop (ee_call (ea_1 (ee_var rfl)) ⟨eW v, rfl, hsm, by unfold needLines; rw [if_pos h, toW_eW, if_neg hl]⟩)) (ss_ret (ee_call (ea_2 (ee_var rfl) (ee_tup ea_nil (by simp))) ⟨v, [], rfl, g, hpos, by simp, by simp; omega, rfl⟩)), rfl⟩
  · rw [if_neg h]
    exact ⟨_, ss_seqX (ss_callX (ea_1 (ee_var rfl)) ⟨d, rfl, hsm, by unfold needLines; rw [if_neg h]⟩), rfl⟩

end
end U
/-! GtT: t > u of tuples of ints, max(t). -/
namespace DL
open PySem PySem.Spec PyProof.Rows L2
open Evl (Ex)
theorem lexAt_gt : ∀ (ns ms as bs : List Int), as.length = bs.length → Ob.lexAt (fun j => decide ((as ++ ns).getD j 0 = (bs ++ ms).getD j 0)) (fun j => decide ((bs ++ ms).getD j 0 < (as ++ ns).getD j 0)) (decide (ns.length > ms.length)) as.length (min ns.length ms.length) = HT.lexLt ms ns
  | [], [], as, bs, _ => by simp [Ob.lexAt, HT.lexLt]
  | [], m :: ms, as, bs, _ => by simp [Ob.lexAt, HT.lexLt]
  | n :: ns, [], as, bs, _ => by simp [Ob.lexAt, HT.lexLt]
  | n :: ns, m :: ms, as, bs, h => by
    have e1 : (as ++ n :: ns).getD as.length 0 = n := by simp
    have e2 : (bs ++ m :: ms).getD as.length 0 = m := by rw [h]; simp
    have hmin : min (n :: ns).length (m :: ms).length = min ns.length ms.length + 1 := by simp only [List.length_cons]; omega
    rw [hmin, Ob.lexAt_succ, e1, e2, HT.lexLt_cons]
    by_cases q : n = m
    · subst q
      rw [if_pos (decide_eq_true rfl), if_pos rfl]
      have ih := lexAt_gt ns ms (as ++ [n]) (bs ++ [n]) (by simp [h])
      rw [← ih]
      simp only [List.append_assoc, List.singleton_append, List.length_append, List.length_singleton, List.length_cons]
      congr 1
      rw [decide_eq_decide]; omega
    · rw [if_neg (by simpa using q), if_neg (fun z => q z.symm)]
def rGtT (K : PySem.W.Frag) : R2 := fun x y H Q => ∃ (a b : Addr) (ns ms : List Int), x = .ref a ∧ y = .ref b ∧ SqT K H a (ns.map V.int) ∧ SqT K H b (ms.map V.int) ∧ Q (.bl (HT.lexLt ms ns)) H
theorem op_gtT {X : Cx} (hu : X.A.units < cLine) : OpR X (compareOp .Gt) (rGtT X.K) := by
  intro pins s σ H x y v u Q I rx ry h
  obtain ⟨a, b, ns, ms, rfl, rfl, ha, hb, q⟩ := h
  cases rx
  cases ry
  obtain ⟨its, r1, p1, _⟩ := I.tuple ha
  obtain ⟨its2, r2, p2, _⟩ := I.tuple hb
  have i1 : IntsAre its ns := Vals.ints r1
  have i2 : IntsAre its2 ms := Vals.ints r2
  have e1 : its.toArray.size = ns.length := by rw [List.size_toArray]; exact i1.length
  have e2 : its2.toArray.size = ms.length := by rw [List.size_toArray]; exact i2.length
  have at1 : ∀ j (h1 : j < its.toArray.size), ∃ t, its.toArray[j] = .int (ns.getD j 0) t := fun j h1 => PyProof.Rows.IntsAre.int_at i1 _ _ (by simp at h1; simp [h1])
  have at2 : ∀ j (h1 : j < its2.toArray.size), ∃ t, its2.toArray[j] = .int (ms.getD j 0) t := fun j h1 => PyProof.Rows.IntsAre.int_at i2 _ _ (by simp at h1; simp [h1])
  have R := Ob.RcOp.tuples_gt (A := X.A) (s := s) (e := fun j => decide (ns.getD j 0 = ms.getD j 0)) (r := fun j => decide (ms.getD j 0 < ns.getD j 0)) p1 p2 hu (fun j h1 h2 => by
    obtain ⟨t, et⟩ := at1 j h1
    obtain ⟨t', et'⟩ := at2 j h2
    rw [et, et']
    have z : (ns.getD j 0 == ms.getD j 0) = decide (ns.getD j 0 = ms.getD j 0) := by
      by_cases q : ns.getD j 0 = ms.getD j 0
      · rw [decide_eq_true q]; exact beq_iff_eq.mpr q
      · rw [decide_eq_false q]; exact beq_eq_false_iff_ne.mpr q
    rw [← z]
    exact SeqAt.EqAt.int_int _ _ _ _) (fun j h1 h2 _ => by
    obtain ⟨t, et⟩ := at1 j h1
    obtain ⟨t', et'⟩ := at2 j h2
    rw [et, et']
    exact Ob.RcOp.gt_int _ _ _ _)
  rw [e1, e2] at R
  have le := lexAt_gt ns ms [] [] rfl
  simp only [List.nil_append, List.length_nil] at le
  rw [le] at R
  exact R X.prog X.w X.xe (EP X pins σ Q) ⟨.bl _, H, I, rfl, q⟩
theorem gtTK {X : Cx} {K : PySem.W.Frag} (h : X.K = K) (hu : X.A.units < cLine) : OpR X (compareOp .Gt) (rGtT K) := by subst h; exact op_gtT hu
theorem re_gtT {K : PySem.W.Frag} {ns ms : List Int} : RE (rGtT K) (eT ns) (eT ms) (.bool (HT.lexLt ms ns)) := fun B H vx vy Q e bt q1 q2 k => by
  obtain ⟨a, xs, rfl, f1, g1⟩ := q1.inv_tup
  obtain ⟨b, ys, rfl, f2, g2⟩ := q2.inv_tup
  have h1 := g1.ints
  have h2 := g2.ints
  subst h1 h2
  exact ⟨a, b, ns, ms, rfl, rfl, SqT.of (e _ _ f1), SqT.of (e _ _ f2), k _ B H (Grow.refl e) (.bl _)⟩
theorem hu1 {A : Around} {k : Nat} (hr : Room k A) : A.units + 1 < cLine := by have := hr.units; omega
/-! ### max(t) -/
theorem maxOf_int : ∀ (xs : List Int) (x : Int), PySem.W.maxOf x xs = xs.foldl max x
  | [], _ => rfl
  | y :: xs, x => by
    show PySem.W.maxOf (if decide (x < y) = true then y else x) xs = _
    rw [maxOf_int xs, List.foldl_cons]
    congr 1
    by_cases h : x < y
    · rw [if_pos (decide_eq_true h)]; omega
    · rw [if_neg (by simpa using h)]; omega
def maxI : List Int → Int
  | [] => 0
  | x :: xs => xs.foldl max x
def rMaxT (K : PySem.W.Frag) : List V → Hp → VK → Prop := fun vs H Q => ∃ (a : Addr) (ns : List Int), vs = [V.ref a] ∧ SqT K H a (ns.map V.int) ∧ ns ≠ [] ∧ Q (.int (maxI ns)) H
theorem cr_maxT {X : Cx} (hc : X.calm = true) (hu : X.A.units + 1 < cLine) : CallR X (.builtin "max") (rMaxT X.K) := by
  intro pins s σ H vs us Q I r h
  obtain ⟨a, ns, rfl, hs, hne, q⟩ := h
  obtain ⟨its, rv, hl, _⟩ := I.tuple hs
  rw [Vals.ref1 r]
  have hi : IntsAre its ns := rv.ints
  cases ns with
  | nil => exact absurd rfl hne
  | cons x xs =>
    refine PySem.W.max_tuple_datum (α := Int) (x := x) (xs := xs) (vs := its.toArray) (I.ok.hd hc) hl (PySem.W.HoldAll.of_ints hi) (by show X.A.units + 1 + 0 < cLine; omega) fun i v h' tk hv hh hk => ?_
    obtain ⟨t, rfl⟩ := PySem.W.int_of_holds hh
    refine ⟨.int _, H, I.kept hk, ⟨_, rfl⟩, ?_⟩
    rw [maxOf_int]
    exact q
theorem maxTK {X : Cx} {K : PySem.W.Frag} (h : X.K = K) (hc : X.calm = true) (hu : X.A.units + 1 < cLine) : CallR X (.builtin "max") (rMaxT K) := by subst h; exact cr_maxT hc hu
theorem rb_maxT {K : PySem.W.Frag} {ns : List Int} (h : ns ≠ []) : RB (rMaxT K) [eT ns] (.int (maxI ns)) := fun B H vs Q e bt q k => by
  cases q with
  | cons q1 q2 =>
    cases q2
    obtain ⟨p, xs, rfl, hb, q⟩ := q1.inv_tup
    have ex := q.ints
    exact ⟨p, ns, rfl, SqT.of (by rw [← ex]; exact e _ _ hb), h, k _ B H (Grow.refl e) (.int _)⟩
theorem maxI_mem {ns : List Int} (h : ns ≠ []) : maxI ns ∈ ns ∧ ∀ y ∈ ns, y ≤ maxI ns := by
  cases ns with
  | nil => exact absurd rfl h
  | cons x xs =>
    show xs.foldl max x ∈ _ ∧ ∀ y ∈ _, y ≤ xs.foldl max x
    refine ⟨?_, fun y hy => ?_⟩
    · rcases U.fmax_mem xs x with z | z
      · rw [z]; exact List.mem_cons_self
      · exact List.mem_cons_of_mem _ z
    · rcases List.mem_cons.mp hy with rfl | hy
      · exact (U.fmax_ge xs y).1
      · exact (U.fmax_ge xs x).2 y hy
end DL
namespace U
open PySem L2 DL
def bads05 (n top : Int) : List PyData := [.none, eL [0], eT [top + 1], eT [-1], .tuple [.bool true], eT [0, 0], .tuple (rng 0 (n + 1).toNat), .int 5]
theorem unlikeB_ne {d : PyData} {m t : Int} (h : ∀ ns, d = eT ns → unlikeN ns m t = false) : unlikeB d m t = false := by
  unfold unlikeB
  split
  · rename_i ds
    cases e : asIs ds with
    | none => rfl
    | some ns => exact h ns (by rw [asIs_eq e])
  · rfl
theorem unlikeN_no {ns : List Int} {m t : Int} (h : ¬ UnlikeN ns m t) : unlikeN ns m t = false := by
  cases e : unlikeN ns m t with
  | false => rfl
  | true => exact absurd (unlike_iff.mp e) h
theorem bads05_ok (n top : Int) (h1 : 1 ≤ n) : ∀ d ∈ bads05 n top, unlikeB d n top = false := by
  unfold bads05
  simp only [List.forall_mem_cons]
  refine ⟨rfl, rfl, ?_, ?_, rfl, ?_, ?_, rfl, fun _ h => by cases h⟩
  · rw [unlikeB_eT]
    exact unlikeN_no fun u => by have := u.rg (top + 1) (by simp); omega
  · rw [unlikeB_eT]
    exact unlikeN_no fun u => by have := u.rg (-1) (by simp); omega
  · rw [unlikeB_eT]
    exact unlikeN_no fun u => by have := u.nd; simp at this
  · rw [rng_ri]
    show unlikeB (eT _) _ _ = false
    rw [unlikeB_eT]
    exact unlikeN_no fun u => by have := u.len; rw [ri_len] at this; omega
theorem take_unlike {w : Wb} {top : Int} {c : List Int} (v : Val w top c) (k : Nat) : UnlikeN (c.take k) w.1 top :=
  ⟨by have := v.fit.len; have := List.length_take_le k c; have := List.length_take (i := k) (l := c); omega, fun n hn => v.fit.rg n (List.mem_of_mem_take hn), v.fit.nd.sublist (List.take_sublist _ _)⟩
end U
namespace U
open PySem L2 DL
theorem at0_map {c : List Int} {f : Int → Int} {i : Int} (h0 : 0 ≤ i) (h1 : i < c.length) : at0 (c.map f) i = f (at0 c i) := by
  unfold at0
  rw [List.getD_eq_getElem?_getD, List.getD_eq_getElem?_getD, List.getElem?_map, List.getElem?_eq_getElem (by omega)]; rfl
theorem lines_map {w : Wb} (g : GoodW w) {c : List Int} (hl : (c.length : Int) = w.1) {f : Int → Int} (h : ∀ a b, iabs (f a - f b) = iabs (a - b)) : linesN w (c.map f) = linesN w c := by
  unfold linesN
  refine List.map_congr_left fun q hq => ?_
  have := g.line q hq
  rw [at0_map (by omega) (by omega), at0_map (by omega) (by omega), h]
theorem val_map {w : Wb} (g : GoodW w) {t t' : Int} {c : List Int} {f : Int → Int} (v : Val w t c) (h : ∀ a b, iabs (f a - f b) = iabs (a - b)) (hr : ∀ n ∈ c, 0 ≤ f n ∧ f n ≤ t') : Val w t' (c.map f) where
  fit := ⟨by rw [List.length_map]; exact v.fit.len, fun n hn => by obtain ⟨m, hm, rfl⟩ := List.mem_map.mp hn; exact hr m hm, nodup_map v.fit.nd fun x _ y _ e => by
    have := h x y
    rw [e] at this
    unfold iabs at this
    split at this <;> split at this <;> omega⟩
  ln := by rw [lines_map g v.fit.len h]; exact v.ln
theorem val_add {w : Wb} (g : GoodW w) {t t' s : Int} {c : List Int} (v : Val w t c) (hr : ∀ n ∈ c, 0 ≤ n + s ∧ n + s ≤ t') : Val w t' (c.map fun n => n + s) :=
  val_map g v (fun a b => by rw [show a + s - (b + s) = a - b by omega]) hr
theorem val_rev {w : Wb} (g : GoodW w) {t t' : Int} {c : List Int} (v : Val w t c) (ht : t ≤ t') : Val w t' (c.map fun n => t' - n) :=
  val_map g v (fun a b => by rw [show t' - a - (t' - b) = b - a by omega]; exact iabs_sub _ _) fun n hn => by have := v.fit.rg n hn; omega
theorem val_sub {w : Wb} {ls : List (Int × Int)} {t : Int} {c : List Int} (v : Val w t c) (h : ls.Sublist w.2) : Val (w.1, ls) t c :=
  ⟨⟨v.fit.len, v.fit.rg, v.fit.nd⟩, v.ln.sublist (h.map _)⟩
theorem less_ok {w : Wb} (ok : okW w = true) (i : Int) : okW (w.1, dropAt w.2 i) = true := sub_ok ok (dropAt_sub _ _)
/-- (web[0], web[1][:at] + web[1][at + 1:]) -/
theorem ee_less {T : TL} {K : PySem.W.Frag} {ρ : List Sl} {v : Wb} {i j : Nat} {a : Int} (h : ρ[i]? = some (.dat (eW v))) (hj : ρ[j]? = some (.dat (.int a))) (h0 : 0 ≤ a) (hl : v.2.length ≤ 1000) :
    EE T (tTup (tCons (tOp (rIxT K) (tVar i) (tC (.int 0))) (tCons (tOp (rCatA K) (tSl (rSlA K) (tOp (rIxT K) (tVar i) (tC (.int 1))) tNoPart (tPart (tVar j))) (tSl (rSlA K) (tOp (rIxT K) (tVar i) (tC (.int 1))) (tPart (tOp (rI0 fun i j => .int (i + j)) (tVar j) (tC (.int 1)))) tNoPart)) tNil))) ρ (eW (v.1, dropAt v.2 a)) ρ := by
  have c := cut_drop eP v.2 h0
  have hlen : (cutD (v.2.map eP) none (some a)).length + (cutD (v.2.map eP) (some (a + 1)) none).length ≤ 100000 := by
    rw [← List.length_append, c, List.length_map]
    have := (dropAt_sub v.2 a).length_le
    omega
  have := ee_tup (T := T) (ea_2 (ee_w0 (K := K) h) (ee_op (ee_slT (K := K) (ee_w1 (K := K) h) eo_none (eo_some (ee_var hj))) (ee_slT (K := K) (ee_w1 (K := K) h) (eo_some (ee_op (ee_var hj) (ee_int (i := 1)) re_add)) eo_none) (re_catT (K := K) hlen))) (by simp)
  rw [c] at this
  exact this
theorem wne_iff (v : Wb) : (!PyData.eqv (ePs v.2) (.tuple [])) = decide (v.2 ≠ []) := by
  rw [show PyData.tuple [] = ePs [] from rfl, eqv_ePs]
  by_cases h : v.2 = [] <;> simp [h]
end U
namespace U
open PySem L2 DL
section
variable {w : Wb} {names : List Int}
theorem ren_least (g : GoodW w) (N : Nam w.1 names) : leastN (renW names w) = leastN w := by
  have g' := ren_good g N
  have h1 : leastN (renW names w) ≤ leastN w := by
    obtain ⟨c, v⟩ := (least_val g).mpr (Int.le_refl _)
    exact (least_val g').mp ⟨_, val_from g N v⟩
  have h2 : leastN w ≤ leastN (renW names w) := by
    obtain ⟨c, v⟩ := (least_val g').mpr (Int.le_refl _)
    exact (least_val g).mp ⟨_, val_to g N v⟩
  omega
theorem ren_none (g : GoodW w) (N : Nam w.1 names) (t : Int) : (firstFrom (renW names w) t []).isNone = (firstFrom w t []).isNone := by
  rw [Bool.eq_iff_iff, first_none g, first_none (ren_good g N)]
  exact ⟨fun h c v => h _ (val_from g N v), fun h c v => h _ (val_to g N v)⟩
/-- as many lines at a place -/
theorem ren_deg (g : GoodW w) (N : Nam w.1 names) {p : Int} (h0 : 0 ≤ p) (h1 : p < w.1) : ((renW names w).2.filter fun q => [q.1, q.2].contains (at0 names p)).length = (w.2.filter fun q => [q.1, q.2].contains p).length := by
  have pm := (ren_perm (w := w) (names := names)).filter fun q => [q.1, q.2].contains (at0 names p)
  rw [pm.length_eq, List.filter_map, List.length_map]
  congr 1
  refine List.filter_congr fun q hq => ?_
  have l := g.line q hq
  have e1 : at0 names p = at0 names q.1 ↔ p = q.1 := ⟨fun e => N.rn.inj _ _ h0 h1 (by omega) (by omega) e, fun e => by rw [e]⟩
  have e2 : at0 names p = at0 names q.2 ↔ p = q.2 := ⟨fun e => N.rn.inj _ _ h0 h1 (by omega) (by omega) e, fun e => by rw [e]⟩
  show [(lineR (at0 names) q).1, (lineR (at0 names) q).2].contains (at0 names p) = _
  rw [Bool.eq_iff_iff]
  unfold lineR ordP
  split <;> simp [e1, e2] <;> omega
theorem ren_bar (g : GoodW w) (N : Nam w.1 names) : barN (renW names w) = barN w := by
  unfold barN
  rw [ren_top]
  congr 1
  rw [Bool.eq_iff_iff, evenN_iff, evenN_iff]
  constructor
  · intro h p h0 h1
    have t := N.rn.to p h0 h1
    have := h (at0 names p) t.1 t.2
    rw [ren_deg g N h0 h1] at this
    exact this
  · intro h p h0 h1
    have h1 : p < w.1 := h1
    have t := ix_lt N h0 h1
    have := h (ixOf names p) t.1 t.2
    rw [← ren_deg g N t.1 t.2, at_ix N h0 h1] at this
    exact this
theorem ren_pos (g : GoodW w) (N : Nam w.1 names) {p : Int} (h0 : 0 ≤ p) (h1 : p < w.1) : posN (renW names w) (at0 names p) = posN w p := by
  have g' := ren_good g N
  have t := N.rn.to p h0 h1
  rw [pos_is g' (p := at0 names p) t, pos_is g ⟨h0, h1⟩, ren_top]
  refine setI_congr fun k => ?_
  rw [List.mem_map, List.mem_map]
  constructor
  · rintro ⟨c, hc, rfl⟩
    refine ⟨_, (all_mem g).mpr (val_to g N ((all_mem g').mp hc)), ?_⟩
    exact at0_pull h0 (by omega)
  · rintro ⟨c, hc, rfl⟩
    refine ⟨_, (all_mem g').mpr (val_from g N ((all_mem g).mp hc)), ?_⟩
    rw [at0_pull t.1 (by omega), ix_at N h0 h1]
/-! ### sums -/
theorem valS_pull {w o : Wb} {c : List Int} {f : Int → Int} (g : GoodW w) (r : Rn w.1 f) (h1 : o.1 = w.1) (ht : topW o = topW w) (h2 : o.2.Perm (w.2.map (lineR f))) (h : ValS o c) : ValS w (pull w.1.toNat f c) where
  fit := pull_fits r g.lo ⟨by rw [← h1]; exact h.fit.len, by rw [← ht]; exact h.fit.rg, h.fit.nd⟩
  ln := by
    have e : sumsN w (pull w.1.toNat f c) = (w.2.map (lineR f)).map (sumL o c) := by
      unfold sumsN
      rw [List.map_map]
      refine List.map_congr_left fun q hq => ?_
      have := g.line q hq
      show (at0 (pull w.1.toNat f c) q.1 + at0 (pull w.1.toNat f c) q.2) % topW w = sumL o c (lineR f q)
      rw [at0_pull (by omega) (by omega), at0_pull (by omega) (by omega)]
      unfold sumL lineR ordP
      rw [ht]
      split
      · rfl
      · rw [Int.add_comm]
    rw [e]
    have : (sumsN o c).Perm ((w.2.map (lineR f)).map (sumL o c)) := h2.map _
    exact this.nodup_iff.mp h.ln
theorem ren_sum (g : GoodW w) (N : Nam w.1 names) : (firstS (renW names w)).isNone = (firstS w).isNone := by
  rw [Bool.eq_iff_iff, firstS_none g, firstS_none (ren_good g N)]
  exact ⟨fun h c v => h _ (valS_pull (w := renW names w) (o := w) (ren_good g N) N.rni rfl ren_top.symm (ren_perm' g N) v), fun h c v => h _ (valS_pull (w := w) (o := renW names w) g N.rn rfl ren_top ren_perm v)⟩
end
end U
namespace U
open PySem L2 PyProof.Rows DL
open Evl (Ex)
open LamX (lamS_by)
section
variable {P : Program} {w : World} {K : PySem.W.Frag} {mg : Str → Option Value} {base : Heap} {xa : Str → Addr}
abbrev s_law : Stmt := topS 51
theorem sc_law : FnScope ["script", "dice", "web", "names", "lines", "first", "last", "ends", "other", "made", "turned_numbers", "place"] ["script"] (defScope s_law) := ⟨rfl, rfl, rfl, by decide +kernel, rfl, by decide +kernel, by decide +kernel⟩
theorem bd_law : BindsAs "law" s_law ["script"] := fun _ _ _ _ _ _ us hl => match us, hl with | [_], _ => rfl

theorem ok_law {f : Addr} {fd : FuncData} (F : Fun K "law" "law" s_law f fd) (B : Bt mg) (c__law_rounds : Cal P w K mg base 2 "_law_rounds" ["script", "most"] (spRounds K)) (c__law_any_web : Cal P w K mg base 3 "_law_any_web" ["dice", "most", "lines"] (spO R_law_any_web)) (c__law_any_numbers : Cal P w K mg base 3 "_law_any_numbers" ["dice", "many", "top"] (spOF R_law_any_numbers)) (c_least_top : Cal P w K mg base 12 "least_top" ["web"] (spP (R_least_top xa))) (c_count_good : Cal P w K mg base 5 "count_good" ["web"] (spP (R_count_good xa))) (c_is_barred : Cal P w K mg base 5 "is_barred" ["web"] (spP (R_is_barred xa))) (c_first_good : Cal P w K mg base 12 "first_good" ["web"] (spP (R_first_good xa))) (c_is_good : Cal P w K mg base 5 "is_good" ["web", "value"] (spP (R_is_good xa))) (c_line_numbers : Cal P w K mg base 6 "line_numbers" ["web", "numbering"] (spP (R_line_numbers xa))) (c_possible_numbers : Cal P w K mg base 5 "possible_numbers" ["web", "place"] (spP (R_possible_numbers xa))) (c_first_sum_good : Cal P w K mg base 11 "first_sum_good" ["web"] (spP (R_first_sum_good xa))) : FnOk P w K mg base CX0 13 f fd ["script"] (spLaw K []) := by
  refine F.ok sc_law (fun vs H Q E h => ?_) (fun cdv A outer s H vs Q E hr h => ⟨_, (pss_cons (ps_for PassesOwn.never rfl (piL (K := K) rfl (pe_cal c__law_rounds (hr.mono (by decide)) (by rfl) (pa_cons (pv 0) (pa_cons pe_int pa_nil)))) (pg_name (i := 1) sc_law.nd rfl (Or.inl rfl)) (pss_cons (ps_set (i := 2) sc_law.nd rfl (Or.inl rfl) (pe_cal c__law_any_web (hr.mono (by decide)) (by rfl) (pa_cons (pv 1) (pa_cons pe_int (pa_cons pe_int pa_nil)))))
      (pss_cons (ps_set (i := 3) sc_law.nd rfl (Or.inr rfl) (pe_cal c__law_any_numbers (hr.mono (by decide)) (by rfl) (pa_cons (pv 1) (pa_cons (pe_ix (ixT (K := K) rfl) (pv 2) pe_int (fun _ _ => rfl)) (pa_cons (pe_op op_sub (pe_ix (ixT (K := K) rfl) (pv 2) pe_int (fun _ _ => rfl)) pe_int) pa_nil)))))
      (pss_cons (ps_set (i := 4) sc_law.nd rfl (Or.inl rfl) (pe_lst pa_nil))
      (pss_cons (ps_for PassesOwn.never rfl (piT (K := K) rfl (pe_ix (ixT (K := K) rfl) (pv 2) pe_int (fun _ _ => rfl))) (pgT (K := K) rfl rfl (pgs_cons (pg_name (i := 5) sc_law.nd rfl (Or.inl rfl)) (pgs_cons (pg_name (i := 6) sc_law.nd rfl (Or.inl rfl)) pgs_nil))) (pss_cons (ps_set (i := 7) sc_law.nd rfl (Or.inl rfl) (pe_callB (srtI (K := K) rfl) (by rfl) B.sorted bb_sorted (pa_cons (pe_lst (pa_cons (pe_ix (ixT (K := K) rfl) (pv 3) (pv 5) (fun _ _ => rfl)) (pa_cons (pe_ix (ixT (K := K) rfl) (pv 3) (pv 6) (fun _ _ => rfl)) pa_nil))) pa_nil)))
      (pss_one (ps_expr (appK (K := K) rfl (pv 4) (pa_cons (pe_tup (pa_cons (pe_ix (ixL (K := K) rfl) (pv 7) pe_int (fun _ _ => rfl)) (pa_cons (pe_ix (ixL (K := K) rfl) (pv 7) pe_int (fun _ _ => rfl)) pa_nil))) pa_nil))))))
      (pss_cons (ps_set (i := 8) sc_law.nd rfl (Or.inl rfl) (pe_tup (pa_cons (pe_ix (ixT (K := K) rfl) (pv 2) pe_int (fun _ _ => rfl)) (pa_cons (pe_callTy (tupK (K := K) rfl) (by rfl) B.tuple bb_tuple (pa_cons (pe_callB (srtP (K := K) rfl) (by rfl) B.sorted bb_sorted (pa_cons (pv 4) pa_nil)) pa_nil)) pa_nil))))
      (pss_cons (ps_if (PW.pt (pw_or (pt_cmpR op_ne (pe_cal c_count_good (hr.mono (by decide)) (by rfl) (pa_cons (pv 8) pa_nil)) (pe_cal c_count_good (hr.mono (by decide)) (by rfl) (pa_cons (pv 2) pa_nil)) (nomark _)) (pw_or1 (pt_cmpR op_ne (pe_cal c_least_top (hr.mono (by decide)) (by rfl) (pa_cons (pv 8) pa_nil)) (pe_cal c_least_top (hr.mono (by decide)) (by rfl) (pa_cons (pv 2) pa_nil)) (nomark _))))) (pss_one (ps_ret pe_bl)) pss_nil)
      (pss_cons (ps_if (pt_cmpR op_ne (pe_cal c_is_barred (hr.mono (by decide)) (by rfl) (pa_cons (pv 8) pa_nil)) (pe_cal c_is_barred (hr.mono (by decide)) (by rfl) (pa_cons (pv 2) pa_nil)) (nomark _)) (pss_one (ps_ret pe_bl)) pss_nil)
      (pss_cons (ps_if (pt_cmpR op_ne (pe_cmpR op_isN (pe_cal c_first_good (hr.mono (by decide)) (by rfl) (pa_cons (pv 8) pa_nil)) pe_non (nomark _)) (pe_cmpR op_isN (pe_cal c_first_good (hr.mono (by decide)) (by rfl) (pa_cons (pv 2) pa_nil)) pe_non (nomark _)) (nomark _)) (pss_one (ps_ret pe_bl)) pss_nil)
      (pss_cons (ps_set (i := 9) sc_law.nd rfl (Or.inr rfl) (pe_cal c_first_good (hr.mono (by decide)) (by rfl) (pa_cons (pv 2) pa_nil)))
      (pss_cons (ps_if (pt_cmpR op_notN (pv 9) pe_non (nomark _)) (pss_cons (ps_set (i := 10) sc_law.nd rfl (Or.inl rfl) (pe_callTy (tupK (K := K) rfl) (by rfl) B.tuple bb_tuple (pa_cons (pe_lc (own := [("place", 11)]) (g := (gName 11)) (tt := tYes) rfl sc_law.nd (pi_range1 (by rfl) B.range (pa_cons (pe_ix (ixT (K := K) rfl) (pv 2) pe_int (fun _ _ => rfl)) pa_nil)) (blkOk_by (own := [("place", 11)]) (N := ["script", "dice", "web", "names", "lines", "first", "last", "ends", "other", "made", "turned_numbers", "place"]) (sc := defScope s_law) (by decide +kernel)) (fun _ _ _ _ _ => (pg_name (i := 11) sc_law.nd rfl (Or.inl rfl))) (fun _ _ _ _ _ => pts_nil) (fun _ _ _ _ _ => (pe_ix (ixT (K := K) rfl) (pv 9) (tixK (K := K) rfl (pv 3) (pa_cons (pv 11) pa_nil)) (fun _ _ => rfl)))) pa_nil)))
      (pss_cons (ps_if (PW.pt (pw_or (pt_not (pt_val (pe_cal c_is_good (hr.mono (by decide)) (by rfl) (pa_cons (pv 8) (pa_cons (pv 10) pa_nil))))) (pw_or1 (pt_cmpR (gtTK (K := K) rfl (hu0 hr)) (pe_cal c_first_good (hr.mono (by decide)) (by rfl) (pa_cons (pv 8) pa_nil)) (pv 10) (nomark _))))) (pss_one (ps_ret pe_bl)) pss_nil)
      (pss_one (ps_if (pt_cmpR (neDK (K := K) rfl (hu64 hr)) (pe_callB (srtIT (K := K) rfl) (by rfl) B.sorted bb_sorted (pa_cons (pe_cal c_line_numbers (hr.mono (by decide)) (by rfl) (pa_cons (pv 8) (pa_cons (pv 10) pa_nil))) pa_nil)) (pe_callB (srtIT (K := K) rfl) (by rfl) B.sorted bb_sorted (pa_cons (pe_cal c_line_numbers (hr.mono (by decide)) (by rfl) (pa_cons (pv 2) (pa_cons (pv 9) pa_nil))) pa_nil)) (nomark _)) (pss_one (ps_ret pe_bl)) pss_nil)))) pss_nil)
      (pss_cons (ps_for PassesOwn.never rfl (pi_range1 (by rfl) B.range (pa_cons (pe_ix (ixT (K := K) rfl) (pv 2) pe_int (fun _ _ => rfl)) pa_nil)) (pg_name (i := 11) sc_law.nd rfl (Or.inl rfl)) (pss_one (ps_if (pt_cmpR (neDK (K := K) rfl (hu64 hr)) (pe_cal c_possible_numbers (hr.mono (by decide)) (by rfl) (pa_cons (pv 8) (pa_cons (pe_ix (ixT (K := K) rfl) (pv 3) (pv 11) (fun _ _ => rfl)) pa_nil))) (pe_cal c_possible_numbers (hr.mono (by decide)) (by rfl) (pa_cons (pv 2) (pa_cons (pv 11) pa_nil))) (nomark _)) (pss_one (ps_ret pe_bl)) pss_nil)))
      (pss_one (ps_if (PW.pt (pw_and (pt_cmpR (neDK (K := K) rfl (hu64 hr)) (pe_ix (ixT (K := K) rfl) (pv 2) pe_int (fun _ _ => rfl)) (pe_tup pa_nil) (nomark _)) (pw_and1 (pt_cmpR op_ne (pe_cmpR op_isN (pe_cal c_first_sum_good (hr.mono (by decide)) (by rfl) (pa_cons (pv 8) pa_nil)) pe_non (nomark _)) (pe_cmpR op_isN (pe_cal c_first_sum_good (hr.mono (by decide)) (by rfl) (pa_cons (pv 2) pa_nil)) pe_non (nomark _)) (nomark _))))) (pss_one (ps_ret pe_bl)) pss_nil))))))))))))))
      (pss_one (ps_ret pe_bl))), law_reads (n := 10) rfl (by decide) (fun X p c => ⟨List.replicate 12 .no, rfl, ?_⟩) h⟩)
  · obtain ⟨a, ns, rfl, _⟩ := h
    rfl
  show SS [] X _ (lawS p 10 (c, 0) []) _
  generalize hD : ((c, 0) : Dc) = D
  obtain ⟨ok, hm, hl, _⟩ := anyWeb_ok D (most := 5) (lines := 6) (by decide) (by decide) (by decide)
  refine ss_seq (ss_set (ee_callO (i := 1) rfl (ea_2 ee_int ee_int) rfl (⟨D, 5, 6, rfl, rfl, by decide, by decide, by decide, by decide, rfl, rfl⟩ : R_law_any_web _ _ _ _))) ?_
  generalize (anyWeb D 5 6).2 = D1
  generalize (anyWeb D 5 6).1 = v at *
  have hl6 : v.2.length ≤ 6 := by omega
  have g := good_of ok
  have lo := g.lo
  have hi := g.hi
  have ht0 : 0 ≤ topW v ∧ topW v ≤ 6 := by unfold topW; omega
  refine ss_seq (ss_setFz (i := 1) rfl (ea_2 (ee_w0 rfl) (ee_op (ee_w0 rfl) ee_int re_sub)) rfl (⟨D1, v.1, v.1 - 1, rfl, rfl, by omega, by omega, by omega, by omega, rfl, rfl⟩ : R_law_any_numbers _ _ _ _)) ?_
  have N := nam_of lo (anyNums_full D1 lo)
  generalize (anyNums D1 v.1 (v.1 - 1)).2 = D2
  generalize (anyNums D1 v.1 (v.1 - 1)).1.2 = names at N ⊢
  have hnl := N.len
  have hrg : ∀ q ∈ v.2, (0 ≤ q.1 ∧ q.1 < names.length) ∧ (0 ≤ q.2 ∧ q.2 < names.length) := fun q hq => by have := g.line q hq; omega
  show SS [] X _ [.no, .own (some p) (eD D2), .dat (eW v), .is (kFz names), .no, .no, .no, .no, .no, .no, .no, .no] _
  refine ss_seq (ss_own (el_lst ea_nil (by simp))) ?_
  refine ss_seq (ss_forT (ee_w1 rfl) (forR_acc eP (fun q => eP (lineR (at0 names) q)) (fun acc => [.no, .own (some p) (eD D2), .dat (eW v), .is (kFz names), .own none acc, .no, .no, .no, .no, .no, .no, .no]) v.2 [] fun acc q hq hacc => ?_)) (ss_give (i := 4) rfl ?_)
  · refine ⟨_, eg_tup2, ss_forget (ss_seq (ss_set (el_cb (ea_1 (el_lst (ea_2 (ee_ixFz rfl (ee_var rfl) (hrg q hq).1.1 (hrg q hq).1.2) (ee_ixFz rfl (ee_var rfl) (hrg q hq).2.1 (hrg q hq).2.2)) (by simp)).ee) (rbl_sorted (ns := [_, _]))).ee)
      (ss_app rfl (ee_tup (ea_2 (ee_op (ee_var rfl) ee_int (re_ixL (d := .int (lineR (at0 names) q).1) ?_)) (ee_op (ee_var rfl) ee_int (re_ixL (d := .int (lineR (at0 names) q).2) ?_))) (by simp)) rfl ?_)) ?_⟩
    · rw [sort_two]; rfl
    · rw [sort_two]; rfl
    · simp at hacc; omega
    · exact .same (.same (.same (.same (.same (.no (.no (.no (.no (.no (.no (.no .nil)))))))))))
  have ed : (([] : List PyData) ++ v.2.map fun q => eP (lineR (at0 names) q)) = (v.2.map (lineR (at0 names))).map eP := by rw [List.nil_append, List.map_map]; rfl
  rw [ed]
  refine ss_seq (ss_set (ee_tup (ea_2 (ee_w0 rfl) (ee_cb (ea_1 (el_cb (ea_1 (ee_var rfl)) rbl_sortedP).ee) rb_tupL)) (by simp))) ?_
  have gr := ren_good g N
  have rt := ren_top (w := v) (names := names)
  have r1 : (renW names v).1 = v.1 := rfl
  have hlr := ren_least g N
  have hbr := ren_bar g N
  have hnr := ren_none g N (topW v)
  have hcr := ren_count g N (topW v)
  have hsr := ren_sum g N
  have hpr := fun q (h0 : 0 ≤ q) (h1 : q < v.1) => ren_pos g N h0 h1
  have hvf := fun c => val_from g N (t := topW v) (c := c)
  have hnn : (renW names v).2 ≠ [] ↔ v.2 ≠ [] := by rw [← List.length_pos_iff, ← List.length_pos_iff, ren_len]
  show SS [] X _ [.no, .own (some p) (eD D2), .dat (eW v), .is (kFz names), .dat (.list ((v.2.map (lineR (at0 names))).map eP)), .no, .no, .no, .dat (eW (renW names v)), .no, .no, .no] _
  generalize renW names v = o at *
  have hC : ∀ {u : Wb}, GoodW u → u.1 ≤ 5 → topW u ≤ 6 → R_count_good xa [eW u] (.ok (.int ((allN u (topW u)).length : Int))) := fun {u} gu h5 h6 => ⟨eW u, rfl, small_of gu, (fun _ _ => by rw [toW_eW]; exact ⟨h5, h6⟩), by unfold countR; rw [if_pos (webB_true (ok_of gu)), toW_eW, if_neg (by omega)]⟩
  have hP : ∀ {u : Wb} (q : Int), GoodW u → u.1 ≤ 5 → topW u ≤ 6 → 0 ≤ q → q < u.1 → R_possible_numbers xa [eW u, .int q] (.ok (eT (posN u q))) := fun {u} q gu h5 h6 a b => ⟨eW u, .int q, rfl, small_of gu, (fun _ _ => by rw [toW_eW]; exact ⟨h5, h6⟩), by unfold posR; rw [if_pos (webB_true (ok_of gu)), toW_eW, if_pos (wholeP_iff.mpr ⟨q, rfl, a, by omega⟩), if_neg (by omega)]⟩
  have hF : ∀ {u : Wb}, GoodW u → R_first_good xa [eW u] (.ok (optD (firstFrom u (topW u) []))) := fun gu => ⟨_, rfl, small_of gu, (fun _ => by rw [toW_eW]; have := lines15 gu; omega), by unfold firstR; rw [if_pos (webB_true (ok_of gu)), toW_eW]⟩
  have hL : ∀ {u : Wb}, GoodW u → R_least_top xa [eW u] (.ok (.int (leastN u))) := fun gu => ⟨_, rfl, small_of gu, by unfold leastR; rw [if_pos (webB_true (ok_of gu)), toW_eW]⟩
  have hB : ∀ {u : Wb}, GoodW u → R_is_barred xa [eW u] (.ok (.bool (barN u))) := fun gu => ⟨_, rfl, small_of gu, by unfold barR; rw [if_pos (webB_true (ok_of gu)), toW_eW]⟩
  have hS : ∀ {u : Wb}, GoodW u → u.2 ≠ [] → R_first_sum_good xa [eW u] (.ok (optD (firstS u))) := fun gu hne => ⟨_, rfl, small_of gu, by unfold firstSR; rw [if_pos (webB_true (ok_of gu)), toW_eW, if_neg hne]⟩
  refine ss_chk (ET.is (et_or (et_test (ee_op (ee_call (ea_1 (ee_var rfl)) (hC gr (by omega) (by omega))) (ee_call (ea_1 (ee_var rfl)) (hC g hm ht0.2)) re_neI)) (fun _ => et_test (ee_op (ee_call (ea_1 (ee_var rfl)) (hL gr)) (ee_call (ea_1 (ee_var rfl)) (hL g)) re_neI))) (show _ = false by rw [rt, hcr, hlr]; simp)) ?_
  refine ss_chk (ET.is (et_test (ee_op (ee_call (ea_1 (ee_var rfl)) (hB gr)) (ee_call (ea_1 (ee_var rfl)) (hB g)) re_neB)) (show _ = false by rw [hbr]; simp)) ?_
  refine ss_chk (ET.is (et_test (ee_op (ee_op (ee_call (ea_1 (ee_var rfl)) (hF gr)) ee_non re_isN) (ee_op (ee_call (ea_1 (ee_var rfl)) (hF g)) ee_non re_isN) re_neB)) (show _ = false by rw [isNone_optD, isNone_optD, rt, hnr]; simp)) ?_
  refine ss_seq (ss_set (ee_call (ea_1 (ee_var rfl)) (hF g))) ?_
  show SS [] X _ [.no, .own (some p) (eD D2), .dat (eW v), .is (kFz names), .dat (.list ((v.2.map (lineR (at0 names))).map eP)), .no, .no, .no, .dat (eW o), .dat (optD (firstFrom v (topW v) [])), .no, .no] _
  refine ss_seq (ρ1 := [.no, .own (some p) (eD D2), .dat (eW v), .is (kFz names), .dat (.list ((v.2.map (lineR (at0 names))).map eP)), .no, .no, .no, .dat (eW o), .dat (optD (firstFrom v (topW v) [])), .no, .no]) (ss_if (et_test (ee_op (ee_var rfl) ee_non re_notN)) (fun hb => ?_) (fun _ => ss_next)) ?_
  · cases hfv : firstFrom v (topW v) [] with
    | none => rw [hfv] at hb; cases hb
    | some c =>
      have vc := first_some g hfv
      have hcl := vc.fit.len
      have vo := hvf c vc
      obtain ⟨d, hd⟩ : ∃ d, firstFrom o (topW v) [] = some d := by
        cases e : firstFrom o (topW v) [] with
        | none => exact absurd vo ((first_none gr).mp (by rw [e]; rfl) _)
        | some d => exact ⟨d, rfl⟩
      have fo := hF gr
      rw [rt, hd] at fo
      have hG : R_is_good xa [eW o, eT (pull v.1.toNat (ixOf names) c)] (.ok (.bool true)) := ⟨eW o, _, rfl, small_of gr, (fun _ => by rw [toW_eW]; have := lines15 gr; omega), by unfold goodR; rw [if_pos (webB_true (ok_of gr)), toW_eW, goodB_eT, goodN_iff.mpr (by rw [rt]; exact vo)]⟩
      have hLn : ∀ {u : Wb} {c : List Int}, GoodW u → Val u (topW u) c → R_line_numbers xa [eW u, eT c] (.ok (eT (linesN u c))) := fun {u c} gu vu => ⟨eW u, eT c, rfl, small_of gu, by unfold lineNums; rw [if_pos (webB_true (ok_of gu)), toW_eW, if_pos (by rw [fitsB_eT]; exact of_fits vu.fit), toN_eT]⟩
      have la := lines_all g vc
      have lb := lines_all gr (c := pull v.1.toNat (ixOf names) c) (by rw [rt]; exact vo)
      have hle := first_le gr hd vo
      refine ss_seq (ss_set (ee_cb (ea_1 (el_lcR1p (n := v.1) (es := (pull v.1.toNat (ixOf names) c).map PyData.int) (ea_1 (ee_w0 rfl)) (by omega) (lcr_ints PyData.int (fun i => at0 c (ixOf names i)) (ri 0 v.1.toNat) fun i hi => ?_) (by rw [List.length_map, pull_len]; omega)).ee) rb_tupL)) ?_
      · have hi := mem_ri.mp hi
        have hx := ix_lt N (j := i) (by omega) (by omega)
        exact lc1m (by intro _ _ h; cases h) (ee_op (ee_var rfl) (ee_tix rfl (ee_var rfl) (N.all (by omega) (by omega))) (re_ixT (at0_ok hx.1 (by have h2 := hx.2; unfold ixOf at h2; omega))))
      refine ss_chk (ET.is (et_or (et_not (et_B (ee_call (ea_2 (ee_var rfl) (ee_var rfl)) hG))) (fun _ => et_test (ee_op (ee_call (ea_1 (ee_var rfl)) fo) (ee_var rfl) re_gtT))) (show _ = false by rw [hle]; rfl)) ?_
      have hle2 : v.2.length = o.2.length := by unfold topW at rt; omega
      exact ss_forget (ss_no (ET.is (et_test (ee_op (el_cb (ea_1 (ee_call (ea_2 (ee_var rfl) (ee_var rfl)) (hLn gr (by rw [rt]; exact vo)))) rbl_sortedT).ee (el_cb (ea_1 (ee_call (ea_2 (ee_var rfl) (ee_var rfl)) (hLn g vc))) rbl_sortedT).ee (re_neD (sh_eL _) (sh_eL _)))) (show _ = false by rw [show PyData.list ((sortI (linesN o (pull v.1.toNat (ixOf names) c))).map PyData.int) = eL (sortI (linesN o (pull v.1.toNat (ixOf names) c))) from rfl, show PyData.list ((sortI (linesN v c)).map PyData.int) = eL (sortI (linesN v c)) from rfl, eqv_eL, la, lb, hle2]; simp))) (.same (.same (.same (.same (.same (.same (.same (.same (.same (.same (.no (.same .nil))))))))))))
  refine ss_seq (ρ1 := [.no, .own (some p) (eD D2), .dat (eW v), .is (kFz names), .dat (.list ((v.2.map (lineR (at0 names))).map eP)), .no, .no, .no, .dat (eW o), .dat (optD (firstFrom v (topW v) [])), .no, .no]) (ss_forR1i (n := v.1) (ea_1 (ee_w0 rfl)) (by omega) (forR_pre PyData.int (fun _ => [.no, .own (some p) (eD D2), .dat (eW v), .is (kFz names), .dat (.list ((v.2.map (lineR (at0 names))).map eP)), .no, .no, .no, .dat (eW o), .dat (optD (firstFrom v (topW v) [])), .no, .no]) (ri 0 v.1.toNat) fun pr q post e => ?_)) ?_
  · have hq := mem_ri.mp (show q ∈ ri 0 v.1.toNat by rw [e]; simp)
    have t := N.rn.to q (by omega) (by omega)
    exact ⟨_, eg_name, ss_forget (ss_no (ET.is (et_test (ee_op (ee_call (ea_2 (ee_var rfl) (ee_ixFz rfl (ee_var rfl) (by omega) (by omega))) (hP (at0 names q) gr (by omega) (by omega) t.1 (by omega))) (ee_call (ea_2 (ee_var rfl) (ee_var rfl)) (hP q g hm ht0.2 (by omega) (by omega))) (re_neD (sh_eT _) (sh_eT _)))) (show _ = false by rw [hpr q (by omega) (by omega), eqv_eT]; simp))) (.same (.same (.same (.same (.same (.same (.same (.same (.same (.same (.same (.no .nil))))))))))))⟩
  refine ss_forget (ss_no ?_) (ρ1 := [.no, .own (some p) (eD D2), .dat (eW v), .is (kFz names), .dat (.list ((v.2.map (lineR (at0 names))).map eP)), .no, .no, .no, .dat (eW o), .dat (optD (firstFrom v (topW v) [])), .no, .no]) (Weaker.all rfl)
  have tw := ET.is (et_test (T := []) (ee_op (ee_w1 (K := K) (v := v) (ρ := [.no, .own (some p) (eD D2), .dat (eW v), .is (kFz names), .dat (.list ((v.2.map (lineR (at0 names))).map eP)), .no, .no, .no, .dat (eW o), .dat (optD (firstFrom v (topW v) [])), .no, .no]) (i := 2) rfl) (ee_tup ea_nil (by simp)) (re_neD (K := K) (sh_ePs _) sh_niT))) (wne_iff v)
  cases hb : decide (v.2 ≠ []) with
  | false => rw [hb] at tw; exact et_andF tw
  | true =>
    rw [hb] at tw
    have hne : v.2 ≠ [] := of_decide_eq_true hb
    exact et_andT tw (ET.is (et_test (ee_op (ee_op (ee_call (ea_1 (ee_var rfl)) (hS gr (hnn.mpr hne))) ee_non re_isN) (ee_op (ee_call (ea_1 (ee_var rfl)) (hS g hne)) ee_non re_isN) re_neB)) (by rw [isNone_optD, isNone_optD, hsr]; simp))

end
end U
namespace U
open PySem L2 PyProof.Rows DL
section
variable {P : Program} {w : World} {K : PySem.W.Frag} {mg : Str → Option Value} {base : Heap}
theorem law_mk {fa : Addr} {h : Heap} (KX : K.In h) (hfa : mg "law" = some (.ref fa)) (B : Bt mg) (hx : ∀ x ∈ (["InvalidWeb", "TooMany", "InvalidNumbering", "InvalidPlace", "NoLines"] : List Str), ∃ C, Xc K mg x C)
    (F_law_cell : Fn K mg "_law_cell" s_law_cell) (F_law_rounds : Fn K mg "_law_rounds" s_law_rounds) (F_law_drawn : Fn K mg "_law_drawn" s_law_drawn) (F_law_roll : Fn K mg "_law_roll" s_law_roll) (F_law_pairs : Fn K mg "_law_pairs" s_law_pairs) (F_law_any_web : Fn K mg "_law_any_web" s_law_any_web) (F_law_any_numbers : Fn K mg "_law_any_numbers" s_law_any_numbers) (F_is_whole : Fn K mg "is_whole" s_is_whole) (F_is_pair : Fn K mg "is_pair" s_is_pair) (F_is_web : Fn K mg "is_web" s_is_web) (F_need_web : Fn K mg "need_web" s_need_web) (F_top_of : Fn K mg "top_of" s_top_of) (F_near_of : Fn K mg "near_of" s_near_of) (F_are_twins : Fn K mg "are_twins" s_are_twins) (F_plan_of : Fn K mg "plan_of" s_plan_of) (F_next_ones : Fn K mg "next_ones" s_next_ones) (F_first_in : Fn K mg "first_in" s_first_in) (F_used_numbers : Fn K mg "used_numbers" s_used_numbers) (F_first_from : Fn K mg "first_from" s_first_from) (F_least_top : Fn K mg "least_top" s_least_top) (F_need_few : Fn K mg "need_few" s_need_few) (F_all_from : Fn K mg "all_from" s_all_from) (F_orders_of_twins : Fn K mg "orders_of_twins" s_orders_of_twins) (F_count_good : Fn K mg "count_good" s_count_good) (F_is_barred : Fn K mg "is_barred" s_is_barred) (F_first_good : Fn K mg "first_good" s_first_good) (F_numbers_of_lines : Fn K mg "numbers_of_lines" s_numbers_of_lines) (F_all_differ : Fn K mg "all_differ" s_all_differ) (F_are_unlike : Fn K mg "are_unlike" s_are_unlike) (F_fits_top : Fn K mg "fits_top" s_fits_top) (F_is_good : Fn K mg "is_good" s_is_good) (F_need_numbering : Fn K mg "need_numbering" s_need_numbering) (F_line_numbers : Fn K mg "line_numbers" s_line_numbers) (F_need_place : Fn K mg "need_place" s_need_place) (F_possible_numbers : Fn K mg "possible_numbers" s_possible_numbers) (F_need_lines : Fn K mg "need_lines" s_need_lines) (F_sums_used : Fn K mg "sums_used" s_sums_used) (F_continued : Fn K mg "continued" s_continued) (F_first_sum_good : Fn K mg "first_sum_good" s_first_sum_good) (F_law : Fn K mg "law" s_law) :
    ∃ fd : FuncData, (∀ (s : Shared) (v : Value), BindsTo s fd ⟨[v], []⟩ [("script", v)]) ∧ ∀ base : Heap, K.In base → base.Ns mainGlobals mg → FnOk P w K mg base CX0 13 fa fd ["script"] (spLaw K []) := by
  obtain ⟨xa, xs⟩ := xa_mk _ hx
  have x_InvalidWeb : Xc K mg "InvalidWeb" (xa "InvalidWeb") := xs _ (.head _)
  have x_TooMany : Xc K mg "TooMany" (xa "TooMany") := xs _ (.tail _ (.head _))
  have x_InvalidNumbering : Xc K mg "InvalidNumbering" (xa "InvalidNumbering") := xs _ (.tail _ (.tail _ (.head _)))
  have x_InvalidPlace : Xc K mg "InvalidPlace" (xa "InvalidPlace") := xs _ (.tail _ (.tail _ (.tail _ (.head _))))
  have x_NoLines : Xc K mg "NoLines" (xa "NoLines") := xs _ (.tail _ (.tail _ (.tail _ (.tail _ (.head _)))))
  obtain ⟨f, fd, Fl, hm⟩ := F_law.ex
  have e := hfa.symm.trans hm
  cases e
  refine ⟨fd, fun s v => ?_, fun base _ _ => ?_⟩
  · obtain ⟨oc, od, kV, doc, pm, an, cdv, ct, osl, rfl, _, _⟩ := Fl.ex
    exact .of_eq rfl
  have c__law_cell : Cal P w K mg base 1 "_law_cell" ["script", "k"] (spCellU K) := ok_law_cell F_law_cell B
  have c__law_rounds : Cal P w K mg base 2 "_law_rounds" ["script", "most"] (spRounds K) := ok_law_rounds F_law_rounds B c__law_cell
  have c__law_drawn : Cal P w K mg base 1 "_law_drawn" ["cell", "k"] (spP R_law_drawn) := ok_law_drawn F_law_drawn B
  have c__law_roll : Cal P w K mg base 2 "_law_roll" ["dice", "many"] (spO R_law_roll) := ok_law_roll F_law_roll B c__law_drawn
  have c__law_pairs : Cal P w K mg base 1 "_law_pairs" ["many"] (spP R_law_pairs) := ok_law_pairs F_law_pairs B
  have c__law_any_web : Cal P w K mg base 3 "_law_any_web" ["dice", "most", "lines"] (spO R_law_any_web) := ok_law_any_web F_law_any_web B c__law_roll c__law_pairs
  have c__law_any_numbers : Cal P w K mg base 3 "_law_any_numbers" ["dice", "many", "top"] (spOF R_law_any_numbers) := ok_law_any_numbers F_law_any_numbers B c__law_roll
  have c_is_whole : Cal P w K mg base 1 "is_whole" ["value", "low", "high"] (spP R_is_whole) := ok_is_whole F_is_whole B
  have c_is_pair : Cal P w K mg base 2 "is_pair" ["value", "high"] (spP R_is_pair) := ok_is_pair F_is_pair B c_is_whole
  have c_is_web : Cal P w K mg base 3 "is_web" ["value"] (spP R_is_web) := ok_is_web F_is_web B c_is_whole c_is_pair
  have c_need_web : Cal P w K mg base 4 "need_web" ["web"] (spP (R_need_web xa)) := ok_need_web F_need_web B x_InvalidWeb c_is_web
  have c_top_of : Cal P w K mg base 1 "top_of" ["web"] (spP R_top_of) := ok_top_of F_top_of B
  have c_near_of : Cal P w K mg base 1 "near_of" ["web", "place"] (spP R_near_of) := ok_near_of F_near_of B
  have c_are_twins : Cal P w K mg base 2 "are_twins" ["web", "one", "other"] (spP R_are_twins) := ok_are_twins F_are_twins B c_near_of
  have c_plan_of : Cal P w K mg base 3 "plan_of" ["web"] (spP R_plan_of) := ok_plan_of F_plan_of B c_near_of c_are_twins
  have c_next_ones : Cal P w K mg base 1 "next_ones" ["plan", "top", "begun", "fixed", "used"] (spP R_next_ones) := ok_next_ones F_next_ones B
  have c_first_in : Cal P w K mg base 10 "first_in" ["plan", "top", "begun", "fixed", "used"] (spP (R_first_in 7)) := ok_first_in F_first_in B c_next_ones
  have c_used_numbers : Cal P w K mg base 1 "used_numbers" ["plan", "begun"] (spP R_used_numbers) := ok_used_numbers F_used_numbers B
  have c_first_from : Cal P w K mg base 11 "first_from" ["web", "top", "begun"] (spP R_first_from) := ok_first_from F_first_from B c_plan_of c_first_in c_used_numbers
  have c_least_top : Cal P w K mg base 12 "least_top" ["web"] (spP (R_least_top xa)) := ok_least_top F_least_top B c_need_web c_top_of c_first_from
  have c_need_few : Cal P w K mg base 2 "need_few" ["web"] (spP (R_need_few xa)) := ok_need_few F_need_few B x_TooMany c_top_of
  have c_all_from : Cal P w K mg base 4 "all_from" ["web", "top"] (spP R_all_from) := ok_all_from F_all_from B c_plan_of c_next_ones
  have c_orders_of_twins : Cal P w K mg base 3 "orders_of_twins" ["web"] (spP R_orders_of_twins) := ok_orders_of_twins F_orders_of_twins B c_are_twins
  have c_count_good : Cal P w K mg base 5 "count_good" ["web"] (spP (R_count_good xa)) := ok_count_good F_count_good B c_need_web c_need_few c_all_from c_top_of c_orders_of_twins
  have c_is_barred : Cal P w K mg base 5 "is_barred" ["web"] (spP (R_is_barred xa)) := ok_is_barred F_is_barred B c_need_web c_near_of c_top_of
  have c_first_good : Cal P w K mg base 12 "first_good" ["web"] (spP (R_first_good xa)) := ok_first_good F_first_good B c_need_web c_first_from c_top_of
  have c_numbers_of_lines : Cal P w K mg base 1 "numbers_of_lines" ["web", "numbering"] (spP R_numbers_of_lines) := ok_numbers_of_lines F_numbers_of_lines B
  have c_all_differ : Cal P w K mg base 2 "all_differ" ["web", "numbering"] (spP R_all_differ) := ok_all_differ F_all_differ B c_numbers_of_lines
  have c_are_unlike : Cal P w K mg base 2 "are_unlike" ["value", "most", "top"] (spP R_are_unlike) := ok_are_unlike F_are_unlike B c_is_whole
  have c_fits_top : Cal P w K mg base 3 "fits_top" ["web", "top", "value"] (spP R_fits_top) := ok_fits_top F_fits_top B c_are_unlike
  have c_is_good : Cal P w K mg base 5 "is_good" ["web", "value"] (spP (R_is_good xa)) := ok_is_good F_is_good B c_need_web c_all_differ c_fits_top c_top_of
  have c_need_numbering : Cal P w K mg base 5 "need_numbering" ["web", "numbering"] (spP (R_need_numbering xa)) := ok_need_numbering F_need_numbering B x_InvalidNumbering c_need_web c_fits_top c_top_of
  have c_line_numbers : Cal P w K mg base 6 "line_numbers" ["web", "numbering"] (spP (R_line_numbers xa)) := ok_line_numbers F_line_numbers B c_need_numbering c_numbers_of_lines
  have c_need_place : Cal P w K mg base 2 "need_place" ["web", "place"] (spP (R_need_place xa)) := ok_need_place F_need_place B x_InvalidPlace c_is_whole
  have c_possible_numbers : Cal P w K mg base 5 "possible_numbers" ["web", "place"] (spP (R_possible_numbers xa)) := ok_possible_numbers F_possible_numbers B c_need_web c_need_place c_need_few c_are_twins c_all_from c_top_of
  have c_need_lines : Cal P w K mg base 5 "need_lines" ["web"] (spP (R_need_lines xa)) := ok_need_lines F_need_lines B x_NoLines c_need_web
  have c_sums_used : Cal P w K mg base 2 "sums_used" ["web", "begun"] (spP R_sums_used) := ok_sums_used F_sums_used B c_top_of
  have c_continued : Cal P w K mg base 10 "continued" ["web", "begun"] (spP (R_continued 7)) := ok_continued F_continued B c_top_of c_sums_used
  have c_first_sum_good : Cal P w K mg base 11 "first_sum_good" ["web"] (spP (R_first_sum_good xa)) := ok_first_sum_good F_first_sum_good B c_need_lines c_continued
  exact ok_law Fl B c__law_rounds c__law_any_web c__law_any_numbers c_least_top c_count_good c_is_barred c_first_good c_is_good c_line_numbers c_possible_numbers c_first_sum_good
theorem walk {l : PySem.W.OpenLaw} {q : Program} {loose : List Str} {XP : (Str → Option Value) → Heap → Prop} {YP : World → Heap → Prop} {d : DefRec} {K : Params → PySem.W.Frag} (hn : l.most = some 63) (hdf : d.params.defaults = [])
    (hY : ∀ (w : World) (h : Heap), YP w h → (K w.params).In h)
    (F : ∀ (w : World) (mg : Str → Option Value) (fa : Addr) (h : Heap), (K w.params).In h → h.Ns mainGlobals mg → mg d.name = some (.ref fa) →
      ∃ fd : FuncData, (∀ (s : Shared) (u : Value), BindsTo s fd ⟨[u], []⟩ [("script", u)]) ∧ ∀ base : Heap, (K w.params).In base → base.Ns mainGlobals mg → FnOk l.prog w (K w.params) mg base CX0 13 fa fd ["script"] (spLaw (K w.params) [])) :
    PySem.W.WalkO q loose XP YP l.row.toRowW d [] (fun f vs => PySem.call f vs) :=
  L2.walk_of (n := 63) (k := 13) (x := "script") (CX := fun _ => CX0) (sp := fun w => spLaw (K w.params) []) hn (by decide) hdf ⟨rfl, by decide, by decide⟩ hY F (fun _ _ a ns hl _ hS => ⟨a, ns, rfl, hS, hl, (fun _ h => by cases h), fun _ => rfl⟩) fun _ _ _ _ _ z => z
end
end U
open PySem PySem.W PyProof.Rows
set_option maxRecDepth 100000 in
set_option maxHeartbeats 0 in
theorem PySem.Challenge.cw_unlikelines_k16_whole_renamed_holds : PySem.Challenge.rw_unlikelines_k16_whole_renamed.Holds := by
  w_on; o_law; k_head; (case hw => w_witness2)
  k_fill
  refine U.walk (l := PySem.Challenge.rw_unlikelines_k16_whole_renamed) rfl rfl (fun w h Y => PySem.W.kIn_of Y) ?F
  case F =>
    intro w mg fa h KX G hmg
    refine' U.law_mk KX hmg ?B ?hx ?F_law_cell ?F_law_rounds ?F_law_drawn ?F_law_roll ?F_law_pairs ?F_law_any_web ?F_law_any_numbers ?F_is_whole ?F_is_pair ?F_is_web ?F_need_web ?F_top_of ?F_near_of ?F_are_twins ?F_plan_of ?F_next_ones ?F_first_in ?F_used_numbers ?F_first_from ?F_least_top ?F_need_few ?F_all_from ?F_orders_of_twins ?F_count_good ?F_is_barred ?F_first_good ?F_numbers_of_lines ?F_all_differ ?F_are_unlike ?F_fits_top ?F_is_good ?F_need_numbering ?F_line_numbers ?F_need_place ?F_possible_numbers ?F_need_lines ?F_sums_used ?F_continued ?F_first_sum_good ?F_law
    case B =>
      refine' U.bt_mk KX G ?z0 ?z1 ?z2 ?z3 ?z4 ?z5 ?z6 ?z7 ?z8 ?z9 ?z10 ?z11 ?z12 ?z13 ?z14 ?z15 ?z16
      (case z0 => k_is)
      (case z1 => k_is)
      (case z2 => k_is)
      (case z3 => k_is)
      (case z4 => k_is)
      (case z5 => k_is)
      (case z6 => k_is)
      (case z7 => k_is)
      (case z8 => k_is)
      (case z9 => k_is)
      (case z10 => k_is)
      (case z11 => k_is)
      (case z12 => k_is)
      (case z13 => k_is)
      (case z14 => k_is)
      (case z15 => k_is)
      (case z16 => k_is)
    case F_law_cell =>
      refine' U.fn_mk KX G ?a ?l ?c ?k
      (case a => k_is); (case l => k_is); (case c => k_is); (case k => k_is)
    case F_law_rounds =>
      refine' U.fn_mk KX G ?a ?l ?c ?k
      (case a => k_is); (case l => k_is); (case c => k_is); (case k => k_is)
    case F_law_drawn =>
      refine' U.fn_mk KX G ?a ?l ?c ?k
      (case a => k_is); (case l => k_is); (case c => k_is); (case k => k_is)
    case F_law_roll =>
      refine' U.fn_mk KX G ?a ?l ?c ?k
      (case a => k_is); (case l => k_is); (case c => k_is); (case k => k_is)
    case F_law_pairs =>
      refine' U.fn_mk KX G ?a ?l ?c ?k
      (case a => k_is); (case l => k_is); (case c => k_is); (case k => k_is)
    case F_law_any_web =>
      refine' U.fn_mk KX G ?a ?l ?c ?k
      (case a => k_is); (case l => k_is); (case c => k_is); (case k => k_is)
    case F_law_any_numbers =>
      refine' U.fn_mk KX G ?a ?l ?c ?k
      (case a => k_is); (case l => k_is); (case c => k_is); (case k => k_is)
    case F_is_whole =>
      refine' U.fn_mk KX G ?a ?l ?c ?k
      (case a => k_is); (case l => k_is); (case c => k_is); (case k => k_is)
    case F_is_pair =>
      refine' U.fn_mk KX G ?a ?l ?c ?k
      (case a => k_is); (case l => k_is); (case c => k_is); (case k => k_is)
    case F_is_web =>
      refine' U.fn_mk KX G ?a ?l ?c ?k
      (case a => k_is); (case l => k_is); (case c => k_is); (case k => k_is)
    case F_need_web =>
      refine' U.fn_mk KX G ?a ?l ?c ?k
      (case a => k_is); (case l => k_is); (case c => k_is); (case k => k_is)
    case F_top_of =>
      refine' U.fn_mk KX G ?a ?l ?c ?k
      (case a => k_is); (case l => k_is); (case c => k_is); (case k => k_is)
    case F_near_of =>
      refine' U.fn_mk KX G ?a ?l ?c ?k
      (case a => k_is); (case l => k_is); (case c => k_is); (case k => k_is)
    case F_are_twins =>
      refine' U.fn_mk KX G ?a ?l ?c ?k
      (case a => k_is); (case l => k_is); (case c => k_is); (case k => k_is)
    case F_plan_of =>
      refine' U.fn_mk KX G ?a ?l ?c ?k
      (case a => k_is); (case l => k_is); (case c => k_is); (case k => k_is)
    case F_next_ones =>
      refine' U.fn_mk KX G ?a ?l ?c ?k
      (case a => k_is); (case l => k_is); (case c => k_is); (case k => k_is)
    case F_first_in =>
      refine' U.fn_mk KX G ?a ?l ?c ?k
      (case a => k_is); (case l => k_is); (case c => k_is); (case k => k_is)
    case F_used_numbers =>
      refine' U.fn_mk KX G ?a ?l ?c ?k
      (case a => k_is); (case l => k_is); (case c => k_is); (case k => k_is)
    case F_first_from =>
      refine' U.fn_mk KX G ?a ?l ?c ?k
      (case a => k_is); (case l => k_is); (case c => k_is); (case k => k_is)
    case F_least_top =>
      refine' U.fn_mk KX G ?a ?l ?c ?k
      (case a => k_is); (case l => k_is); (case c => k_is); (case k => k_is)
    case F_need_few =>
      refine' U.fn_mk KX G ?a ?l ?c ?k
      (case a => k_is); (case l => k_is); (case c => k_is); (case k => k_is)
    case F_all_from =>
      refine' U.fn_mk KX G ?a ?l ?c ?k
      (case a => k_is); (case l => k_is); (case c => k_is); (case k => k_is)
    case F_orders_of_twins =>
      refine' U.fn_mk KX G ?a ?l ?c ?k
      (case a => k_is); (case l => k_is); (case c => k_is); (case k => k_is)
    case F_count_good =>
      refine' U.fn_mk KX G ?a ?l ?c ?k
      (case a => k_is); (case l => k_is); (case c => k_is); (case k => k_is)
    case F_is_barred =>
      refine' U.fn_mk KX G ?a ?l ?c ?k
      (case a => k_is); (case l => k_is); (case c => k_is); (case k => k_is)
    case F_first_good =>
      refine' U.fn_mk KX G ?a ?l ?c ?k
      (case a => k_is); (case l => k_is); (case c => k_is); (case k => k_is)
    case F_numbers_of_lines =>
      refine' U.fn_mk KX G ?a ?l ?c ?k
      (case a => k_is); (case l => k_is); (case c => k_is); (case k => k_is)
    case F_all_differ =>
      refine' U.fn_mk KX G ?a ?l ?c ?k
      (case a => k_is); (case l => k_is); (case c => k_is); (case k => k_is)
    case F_are_unlike =>
      refine' U.fn_mk KX G ?a ?l ?c ?k
      (case a => k_is); (case l => k_is); (case c => k_is); (case k => k_is)
    case F_fits_top =>
      refine' U.fn_mk KX G ?a ?l ?c ?k
      (case a => k_is); (case l => k_is); (case c => k_is); (case k => k_is)
    case F_is_good =>
      refine' U.fn_mk KX G ?a ?l ?c ?k
      (case a => k_is); (case l => k_is); (case c => k_is); (case k => k_is)
    case F_need_numbering =>
      refine' U.fn_mk KX G ?a ?l ?c ?k
      (case a => k_is); (case l => k_is); (case c => k_is); (case k => k_is)
    case F_line_numbers =>
      refine' U.fn_mk KX G ?a ?l ?c ?k
      (case a => k_is); (case l => k_is); (case c => k_is); (case k => k_is)
    case F_need_place =>
      refine' U.fn_mk KX G ?a ?l ?c ?k
      (case a => k_is); (case l => k_is); (case c => k_is); (case k => k_is)
    case F_possible_numbers =>
      refine' U.fn_mk KX G ?a ?l ?c ?k
      (case a => k_is); (case l => k_is); (case c => k_is); (case k => k_is)
    case F_need_lines =>
      refine' U.fn_mk KX G ?a ?l ?c ?k
      (case a => k_is); (case l => k_is); (case c => k_is); (case k => k_is)
    case F_sums_used =>
      refine' U.fn_mk KX G ?a ?l ?c ?k
      (case a => k_is); (case l => k_is); (case c => k_is); (case k => k_is)
    case F_continued =>
      refine' U.fn_mk KX G ?a ?l ?c ?k
      (case a => k_is); (case l => k_is); (case c => k_is); (case k => k_is)
    case F_first_sum_good =>
      refine' U.fn_mk KX G ?a ?l ?c ?k
      (case a => k_is); (case l => k_is); (case c => k_is); (case k => k_is)
    case F_law =>
      refine' U.fn_mk KX G ?a ?l ?c ?k
      (case a => k_is); (case l => k_is); (case c => k_is); (case k => k_is)
    case hx =>
      refine' (List.forall_mem_cons.mpr ⟨?X_InvalidWeb, (List.forall_mem_cons.mpr ⟨?X_TooMany, (List.forall_mem_cons.mpr ⟨?X_InvalidNumbering, (List.forall_mem_cons.mpr ⟨?X_InvalidPlace, (List.forall_mem_cons.mpr ⟨?X_NoLines, (fun _ h => by cases h)⟩)⟩)⟩)⟩)⟩)
      case X_InvalidWeb =>
        refine' U.xc_mk KX G ?xa1 ?xq1 ?xk1 ?xb1 ?xt1
        (case xa1 => k_is); (case xq1 => first | k_exc | k_is); (case xk1 => k_is); (case xb1 => k_is); (case xt1 => k_is)
      case X_TooMany =>
        refine' U.xc_mk KX G ?xa1 ?xq1 ?xk1 ?xb1 ?xt1
        (case xa1 => k_is); (case xq1 => first | k_exc | k_is); (case xk1 => k_is); (case xb1 => k_is); (case xt1 => k_is)
      case X_InvalidNumbering =>
        refine' U.xc_mk KX G ?xa1 ?xq1 ?xk1 ?xb1 ?xt1
        (case xa1 => k_is); (case xq1 => first | k_exc | k_is); (case xk1 => k_is); (case xb1 => k_is); (case xt1 => k_is)
      case X_InvalidPlace =>
        refine' U.xc_mk KX G ?xa1 ?xq1 ?xk1 ?xb1 ?xt1
        (case xa1 => k_is); (case xq1 => first | k_exc | k_is); (case xk1 => k_is); (case xb1 => k_is); (case xt1 => k_is)
      case X_NoLines =>
        refine' U.xc_mk KX G ?xa1 ?xq1 ?xk1 ?xb1 ?xt1
        (case xa1 => k_is); (case xq1 => first | k_exc | k_is); (case xk1 => k_is); (case xb1 => k_is); (case xt1 => k_is)
#print axioms PySem.Challenge.cw_unlikelines_k16_whole_renamed_holds
