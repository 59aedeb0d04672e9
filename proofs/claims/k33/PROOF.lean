import PyProof.Rows.All
import Wide.All
import OpenK.AllK
import Wide.FinOn
import HandS.ForMost
import HandS.Evl
import HandS.Deep
import HandS.TupAny
import HandS.TupMul
import HandS.IsInst
import HandS.Style
import HandS.Conv
import HandS.Zip
import HandS.Walk
import KE.GoesMore
import HandS.SortOrd
import HandS.SortRule
import KE.KeyNested
import PySem.Challenge.RW_puttingback_k33_whole_changes_that_can_b
set_option Elab.async false
set_option linter.all false
set_option autoImplicit false
set_option maxRecDepth 100000
set_option maxHeartbeats 4000000
/-! DL1: data, ghost heaps, the judgements over data. -/
namespace DL
open PySem L2
open Evl (Ex)

/-! ### values that stand for data, by tracked objects alone -/
mutual
inductive Dd (H : Hp) : V → PyData → Prop
  | non : Dd H .non .none
  | bl (b : Bool) : Dd H (.bl b) (.bool b)
  | int (i : Int) : Dd H (.int i) (.int i)
  | str (x : Str) : Dd H (.str x) (.str x)
  | lst {a : Addr} {xs : List V} {ds : List PyData} : H a = some (.lst xs) → DdAll H xs ds → Dd H (.ref a) (.list ds)
  | tup {a : Addr} {xs : List V} {ds : List PyData} : H a = some (.tup xs) → DdAll H xs ds → Dd H (.ref a) (.tuple ds)
inductive DdAll (H : Hp) : List V → List PyData → Prop
  | nil : DdAll H [] []
  | cons {v : V} {vs : List V} {d : PyData} {ds : List PyData} : Dd H v d → DdAll H vs ds → DdAll H (v :: vs) (d :: ds)
end
section
variable {K : PySem.W.Frag} {H H' : Hp}
mutual
theorem Dd.dp : ∀ (d : PyData) (v : V), Dd H v d → Dp K H v d
  | .none, _, h => by cases h; exact .non
  | .bool b, _, h => by cases h; exact .bl b
  | .int i, _, h => by cases h; exact .int i
  | .str x, _, h => by cases h; exact .str x
  | .list ds, _, h => by
    cases h with
    | lst e hs => exact .lst (SqL.of e) (DdAll.dp ds _ hs)
  | .tuple ds, _, h => by
    cases h with
    | tup e hs => exact .tup (SqT.of e) (DdAll.dp ds _ hs)
  | .dict _, _, h => by cases h
theorem DdAll.dp : ∀ (ds : List PyData) (vs : List V), DdAll H vs ds → DpAll K H vs ds
  | [], _, h => by cases h; exact .nil
  | d :: ds, _, h => by
    cases h with
    | cons h1 h2 => exact .cons (Dd.dp d _ h1) (DdAll.dp ds _ h2)
end
mutual
theorem Dd.mono (e : Ex H H') : ∀ (d : PyData) (v : V), Dd H v d → Dd H' v d
  | .none, _, h => by cases h; exact .non
  | .bool b, _, h => by cases h; exact .bl b
  | .int i, _, h => by cases h; exact .int i
  | .str x, _, h => by cases h; exact .str x
  | .list ds, _, h => by
    cases h with
    | lst q hs => exact .lst (e _ _ q) (DdAll.mono e ds _ hs)
  | .tuple ds, _, h => by
    cases h with
    | tup q hs => exact .tup (e _ _ q) (DdAll.mono e ds _ hs)
  | .dict _, _, h => by cases h
theorem DdAll.mono (e : Ex H H') : ∀ (ds : List PyData) (vs : List V), DdAll H vs ds → DdAll H' vs ds
  | [], _, h => by cases h; exact .nil
  | d :: ds, _, h => by
    cases h with
    | cons h1 h2 => exact .cons (Dd.mono e d _ h1) (DdAll.mono e ds _ h2)
end
theorem Dd.up {d : PyData} {v : V} (h : Dd H v d) (e : Ex H H') : Dd H' v d := Dd.mono e d v h
theorem DdAll.up {ds : List PyData} {vs : List V} (h : DdAll H vs ds) (e : Ex H H') : DdAll H' vs ds := DdAll.mono e ds vs h
theorem Dd.p {d : PyData} {v : V} (h : Dd H v d) : Dp K H v d := Dd.dp d v h
theorem DdAll.len : ∀ {vs : List V} {ds : List PyData}, DdAll H vs ds → vs.length = ds.length
  | _, _, .nil => rfl
  | _, _, .cons _ h => by rw [List.length_cons, List.length_cons, DdAll.len h]
theorem DdAll.get : ∀ {vs : List V} {ds : List PyData} {i : Nat} {d : PyData}, DdAll H vs ds → ds[i]? = some d → ∃ v, vs[i]? = some v ∧ Dd H v d
  | _, _, i, d, .nil, e => by cases e
  | _, _, 0, d, .cons h _, e => by
    cases e
    exact ⟨_, rfl, h⟩
  | _, _, i + 1, d, .cons _ h, e => by
    rw [List.getElem?_cons_succ] at e
    obtain ⟨v, h1, h2⟩ := DdAll.get h e
    exact ⟨v, by rw [List.getElem?_cons_succ]; exact h1, h2⟩
theorem DdAll.get' : ∀ {vs : List V} {ds : List PyData} {i : Nat} {v : V}, DdAll H vs ds → vs[i]? = some v → ∃ d, ds[i]? = some d ∧ Dd H v d
  | _, _, i, v, .nil, e => by cases e
  | _, _, 0, v, .cons h _, e => by
    cases e
    exact ⟨_, rfl, h⟩
  | _, _, i + 1, v, .cons _ h, e => by
    rw [List.getElem?_cons_succ] at e
    obtain ⟨d, h1, h2⟩ := DdAll.get' h e
    exact ⟨d, by rw [List.getElem?_cons_succ]; exact h1, h2⟩
theorem DdAll.app : ∀ {vs ws : List V} {ds es : List PyData}, DdAll H vs ds → DdAll H ws es → DdAll H (vs ++ ws) (ds ++ es)
  | _, _, _, _, .nil, k => k
  | _, _, _, _, .cons h t, k => .cons h (DdAll.app t k)
theorem DdAll.take : ∀ {vs : List V} {ds : List PyData} (n : Nat), DdAll H vs ds → DdAll H (vs.take n) (ds.take n)
  | _, _, 0, _ => .nil
  | _, _, _ + 1, .nil => .nil
  | _, _, n + 1, .cons h t => .cons h (DdAll.take n t)
theorem DdAll.drop : ∀ {vs : List V} {ds : List PyData} (n : Nat), DdAll H vs ds → DdAll H (vs.drop n) (ds.drop n)
  | _, _, 0, h => h
  | _, _, _ + 1, .nil => .nil
  | _, _, n + 1, .cons _ t => DdAll.drop n t
theorem DdAll.one {v : V} {d : PyData} (h : Dd H v d) : DdAll H [v] [d] := .cons h .nil
theorem DdAll.ints : ∀ {vs : List V} {ns : List Int}, DdAll H vs (ns.map PyData.int) → vs = ns.map V.int
  | _, [], .nil => rfl
  | _, n :: ns, .cons h t => by
    cases h
    rw [DdAll.ints t] <;> rfl
theorem DdAll.bools : ∀ {vs : List V} {ns : List Bool}, DdAll H vs (ns.map PyData.bool) → vs = ns.map V.bl
  | _, [], .nil => rfl
  | _, n :: ns, .cons h t => by
    cases h
    rw [DdAll.bools t] <;> rfl
theorem DdAll.of_ints : ∀ (ns : List Int), DdAll H (ns.map V.int) (ns.map PyData.int)
  | [] => .nil
  | n :: ns => .cons (.int n) (DdAll.of_ints ns)
end

/-! ### the ghost heap and the cup -/
/-- far: a dict whose keys are pairs of ints, its values ints, that stands still -/
inductive Slot where
  | d (x : PyData)
  | cup
  | far (f : List ((Int × Int) × Int))
def farK (f : List ((Int × Int) × Int)) : List (List Key × V) := f.map fun p => ([Sum.inl p.1.1, Sum.inl p.1.2], V.int p.2)
abbrev DEnv := List (Option Slot)
def CupAt (H : Hp) (c : Addr) : Prop := ∃ a b : Int, H c = some (.lst [.int a, .int b]) ∧ 0 ≤ b ∧ b < 4294967296
/-- G: what stands for good; m: the cup's address, if there is one -/
structure StOk (m : Option Addr) (G H : Hp) : Prop where
  ex : Ex G H
  cup : ∀ c, m = some c → G c = none ∧ CupAt H c
structure Grow (m : Option Addr) (G H G' H' : Hp) : Prop where
  g : Ex G G'
  h : ∀ a o, H a = some o → m ≠ some a → H' a = some o
  st : StOk m G' H'
  fr : ∀ a o, G' a = some o → (∃ u, G a = some u) ∨ H a = none ∨ ∃ xs, H a = some (.tup xs)
section
variable {m : Option Addr} {G H G1 H1 G2 H2 : Hp}
theorem Grow.refl (s : StOk m G H) : Grow m G H G H := ⟨Evl.Ex.refl G, fun _ _ e _ => e, s, fun a o e => .inl ⟨o, e⟩⟩
theorem Grow.trans (a : Grow m G H G1 H1) (b : Grow m G1 H1 G2 H2) : Grow m G H G2 H2 := by
  refine ⟨a.g.trans b.g, fun x o e n => b.h x o (a.h x o e n) n, b.st, fun x o e => ?_⟩
  rcases b.fr x o e with ⟨u, h⟩ | h
  · exact a.fr x u h
  · cases q : H x with
    | none => exact .inr (.inl rfl)
    | some u =>
      by_cases hm : m = some x
      · obtain ⟨_, _, _, h', _⟩ := a.st.cup x hm
        rcases h with h | ⟨ys, h⟩
        · rw [h] at h'
          cases h'
        · rw [h] at h'
          cases h'
      · have k := a.h x u q hm
        rcases h with h | ⟨ys, h⟩
        · rw [h] at k
          cases k
        · rw [h] at k
          exact .inr (.inr ⟨ys, k.symm⟩)
/-- a new object: known for good -/
theorem Grow.new {p : Addr} {o : HO} (s : StOk m G H) (hp : H p = none) : Grow m G H (upd G p o) (upd H p o) := by
  have hg : G p = none := by
    cases q : G p with
    | none => rfl
    | some u =>
      have := s.ex p u q
      rw [hp] at this
      cases this
  refine ⟨Evl.Ex.new hg, fun a u e _ => by rw [upd_ne (ne_of_none e hp)]; exact e, ⟨fun a u e => ?_, fun c e => ?_⟩, fun a u e => ?_⟩
  · by_cases h : a = p
    · subst h
      rw [upd_same] at e ⊢
      exact e
    · rw [upd_ne h] at e ⊢
      exact s.ex a u e
  · obtain ⟨h1, x, y, h2, h3⟩ := s.cup c e
    have hc : c ≠ p := ne_of_none h2 hp
    exact ⟨by rw [upd_ne hc]; exact h1, x, y, by rw [upd_ne hc]; exact h2, h3⟩
  · by_cases h : a = p
    · subst h
      exact .inr (.inl hp)
    · rw [upd_ne h] at e
      exact .inl ⟨u, e⟩
/-- a new object that is not known (it will change) -/
theorem Grow.hid {p : Addr} {o : HO} (s : StOk m G H) (hp : H p = none) : Grow m G H G (upd H p o) := by
  refine ⟨Evl.Ex.refl G, fun a u e _ => by rw [upd_ne (ne_of_none e hp)]; exact e, ⟨fun a u e => ?_, fun c e => ?_⟩, fun a u e => .inl ⟨u, e⟩⟩
  · rw [upd_ne (ne_of_none (s.ex a u e) hp)]
    exact s.ex a u e
  · obtain ⟨h1, x, y, h2, h3⟩ := s.cup c e
    exact ⟨h1, x, y, by rw [upd_ne (ne_of_none h2 hp)]; exact h2, h3⟩
/-- an unknown object is written -/
theorem StOk.put {p : Addr} {o : HO} (s : StOk m G H) (hp : G p = none) (hm : m ≠ some p) : StOk m G (upd H p o) := by
  refine ⟨fun a u e => ?_, fun c e => ?_⟩
  · rw [upd_ne (ne_of_none e hp)]
    exact s.ex a u e
  · obtain ⟨h1, x, y, h2, h3⟩ := s.cup c e
    have hc : c ≠ p := fun z => hm (by rw [← z]; exact e)
    exact ⟨h1, x, y, by rw [upd_ne hc]; exact h2, h3⟩
theorem StOk.nog {p : Addr} (s : StOk m G H) (hp : H p = none) : G p = none := by
  cases q : G p with
  | none => rfl
  | some u =>
    have := s.ex p u q
    rw [hp] at this
    cases this
theorem StOk.nom {p : Addr} (s : StOk m G H) (hp : H p = none) : m ≠ some p := fun e => by
  obtain ⟨_, _, _, h, _⟩ := s.cup p e
  rw [hp] at h
  cases h
/-- an unknown object stays unknown -/
theorem Grow.nog {p : Addr} {o : HO} (w : Grow m G H G1 H1) (hp : H p = some o) (hg : G p = none) (nt : ∀ xs, o ≠ .tup xs := by intro xs e; cases e) : G1 p = none := by
  cases q : G1 p with
  | none => rfl
  | some u =>
    rcases w.fr p u q with ⟨v, e⟩ | e | ⟨xs, e⟩
    · rw [hg] at e
      cases e
    · rw [hp] at e
      cases e
    · rw [hp] at e
      exact absurd (Option.some.inj e) (nt xs)
/-- a tuple that stands is made known -/
theorem Grow.tup {p : Addr} {xs : List V} (s : StOk m G H) (hp : H p = some (.tup xs)) : ∃ G', Grow m G H G' H ∧ G' p = some (.tup xs) := by
  cases q : G p with
  | some u =>
    have e := s.ex p u q
    rw [hp] at e
    cases e
    exact ⟨G, ⟨Evl.Ex.refl G, fun _ _ e _ => e, s, fun a o e => .inl ⟨o, e⟩⟩, q⟩
  | none =>
    refine ⟨upd G p (.tup xs), ⟨Evl.Ex.new q, fun _ _ e _ => e, ⟨fun a u e => ?_, fun c e => ?_⟩, fun a u e => ?_⟩, upd_same⟩
    · by_cases h : a = p
      · subst h
        rw [upd_same] at e
        rw [← e]
        exact hp
      · rw [upd_ne h] at e
        exact s.ex a u e
    · obtain ⟨h1, x, y, h2, h3⟩ := s.cup c e
      have hc : c ≠ p := fun z => by
        rw [z, hp] at h2
        cases h2
      exact ⟨by rw [upd_ne hc]; exact h1, x, y, h2, h3⟩
    · by_cases h : a = p
      · subst h
        exact .inr (.inr ⟨xs, hp⟩)
      · rw [upd_ne h] at e
        exact .inl ⟨u, e⟩
/-- without a cup: the same with one -/
theorem StOk.no (s : StOk m G H) : StOk none G H := ⟨s.ex, fun _ e => nomatch e⟩
theorem Grow.any (s : StOk m G H) (w : Grow none G H G1 H1) : Grow m G H G1 H1 := by
  refine ⟨w.g, fun a o e _ => w.h a o e (fun z => nomatch z), ⟨w.st.ex, fun c e => ?_⟩, w.fr⟩
  obtain ⟨h1, x, y, h2, h3⟩ := s.cup c e
  exact ⟨w.nog h2 h1, x, y, w.h c _ h2 (fun z => nomatch z), h3⟩
theorem Grow.ex (w : Grow none G H G1 H1) : Ex H H1 := fun a o e => w.h a o e (fun z => nomatch z)
end

def SlotOk (m : Option Addr) (G : Hp) (v : V) : Slot → Prop
  | .d x => Dd G v x
  | .cup => ∃ c, m = some c ∧ v = .ref c
  | .far f => ∃ a, v = .ref a ∧ G a = some (.dT (farK f))
structure EnvOk (m : Option Addr) (G : Hp) (σ : St) (ρ : DEnv) : Prop where
  len : ρ.length = σ.length
  at_ : ∀ (i : Nat) (s : Slot), ρ[i]? = some (some s) → ∃ v, σ[i]? = some (some v) ∧ SlotOk m G v s
theorem SlotOk.up {m : Option Addr} {G G' : Hp} {v : V} {s : Slot} (h : SlotOk m G v s) (e : Ex G G') : SlotOk m G' v s := by
  cases s with
  | d x => exact Dd.up h e
  | cup => exact h
  | far f => exact let ⟨a, h1, h2⟩ := h; ⟨a, h1, e _ _ h2⟩
theorem EnvOk.up {m : Option Addr} {G G' : Hp} {σ : St} {ρ : DEnv} (h : EnvOk m G σ ρ) (e : Ex G G') : EnvOk m G' σ ρ :=
  ⟨h.len, fun i s q => let ⟨v, h1, h2⟩ := h.at_ i s q; ⟨v, h1, h2.up e⟩⟩
theorem EnvOk.set {m : Option Addr} {G : Hp} {σ : St} {ρ : DEnv} {i : Nat} {v : V} {s : Slot} (h : EnvOk m G σ ρ) (hs : SlotOk m G v s) : EnvOk m G (σ.set i (some v)) (ρ.set i (some s)) := by
  refine ⟨by rw [List.length_set, List.length_set]; exact h.len, fun j t e => ?_⟩
  by_cases hj : i = j
  · subst hj
    by_cases hl : i < ρ.length
    · rw [List.getElem?_set_self hl] at e
      cases e
      exact ⟨v, by rw [List.getElem?_set_self (by rw [← h.len]; exact hl)], hs⟩
    · rw [List.getElem?_eq_none (by rw [List.length_set]; omega)] at e
      cases e
  · rw [List.getElem?_set_ne hj] at e ⊢
    exact h.at_ j t e
/-- a slot is forgotten -/
theorem EnvOk.drop {m : Option Addr} {G : Hp} {σ : St} {ρ : DEnv} {i : Nat} (h : EnvOk m G σ ρ) : EnvOk m G (σ.set i none) (ρ.set i none) := by
  refine ⟨by rw [List.length_set, List.length_set]; exact h.len, fun j t e => ?_⟩
  by_cases hj : i = j
  · subst hj
    by_cases hl : i < ρ.length
    · rw [List.getElem?_set_self hl] at e
      cases e
    · rw [List.getElem?_eq_none (by rw [List.length_set]; omega)] at e
      cases e
  · rw [List.getElem?_set_ne hj] at e ⊢
    exact h.at_ j t e
def wipeD (ρ : DEnv) : List Nat → DEnv
  | [] => ρ
  | v :: vs => (wipeD ρ vs).set v none
theorem EnvOk.wipe {m : Option Addr} {G : Hp} {σ : St} {ρ : DEnv} (h : EnvOk m G σ ρ) : ∀ vs, EnvOk m G (L2.wipe σ vs) (wipeD ρ vs)
  | [] => h
  | v :: vs => by
    unfold L2.wipe wipeD
    exact (EnvOk.wipe h vs).drop

/-! ### the judgements over data -/
abbrev PM := DEnv → (PyData → Prop) → Prop
abbrev PTt := DEnv → (Bool → Prop) → Prop
abbrev PAa := DEnv → (List PyData → Prop) → Prop
def SndE (te : TE) (pe : PM) : Prop := ∀ (m : Option Addr) (ρ : DEnv) (Φ : PyData → Prop), pe ρ Φ → ∀ (σ : St) (G H : Hp), StOk m G H → EnvOk m G σ ρ →
  ∀ Q : VK, (∀ x v G' H', Φ x → Grow m G H G' H' → Dd G' v x → Q v H') → te σ H Q
def SndT (tt : TT) (pt : PTt) : Prop := ∀ (m : Option Addr) (ρ : DEnv) (Φ : Bool → Prop), pt ρ Φ → ∀ (σ : St) (G H : Hp), StOk m G H → EnvOk m G σ ρ →
  ∀ Q : Bool → Hp → Prop, (∀ b G' H', Φ b → Grow m G H G' H' → Q b H') → tt σ H Q
/-- n of them -/
def SndA (ta : TA) (pa : PAa) (n : Nat) : Prop := ∀ (m : Option Addr) (ρ : DEnv) (Φ : List PyData → Prop), pa ρ Φ → ∀ (σ : St) (G H : Hp), StOk m G H → EnvOk m G σ ρ →
  ∀ Q : List V → Hp → Prop, (∀ xs vs G' H', Φ xs → xs.length = n → Grow m G H G' H' → DdAll G' vs xs → Q vs H') → ta σ H Q
structure ME (X : Cx) (e : Expr) (te : TE) (p : PM) : Prop where
  pe : PE X e te
  snd : SndE te p
structure MT (X : Cx) (e : Expr) (tt : TT) (p : PTt) : Prop where
  pt : PT X e tt
  snd : SndT tt p
structure MW (X : Cx) (e : Expr) (tt : TT) (p : PTt) : Prop where
  pw : PW X e tt
  snd : SndT tt p
/-- args: n of them -/
structure MA (X : Cx) (es : List Expr) (ta : TA) (p : PAa) (n : Nat) : Prop where
  pa : PA X es ta
  snd : SndA ta p n

/-- what a function says, as what is wanted -/
def lift {α : Type} (f : DEnv → Option α) : DEnv → (α → Prop) → Prop := fun ρ Φ => ∃ x, f ρ = some x ∧ Φ x
abbrev FM := DEnv → Option PyData
abbrev FTt := DEnv → Option Bool
abbrev FAa := DEnv → Option (List PyData)
abbrev FE (X : Cx) (e : Expr) (te : TE) (f : FM) : Prop := ME X e te (lift f)
abbrev FT (X : Cx) (e : Expr) (tt : TT) (f : FTt) : Prop := MT X e tt (lift f)
abbrev FW (X : Cx) (e : Expr) (tt : TT) (f : FTt) : Prop := MW X e tt (lift f)
abbrev FA (X : Cx) (es : List Expr) (ta : TA) (f : FAa) (n : Nat) : Prop := MA X es ta (lift f) n

theorem SndE.imp {te : TE} {p p' : PM} (h : SndE te p) (i : ∀ ρ Φ, p' ρ Φ → p ρ Φ) : SndE te p' := fun m ρ Φ q => h m ρ Φ (i ρ Φ q)
theorem SndT.imp {te : TT} {p p' : PTt} (h : SndT te p) (i : ∀ ρ Φ, p' ρ Φ → p ρ Φ) : SndT te p' := fun m ρ Φ q => h m ρ Φ (i ρ Φ q)
theorem SndA.imp {te : TA} {p p' : PAa} {n : Nat} (h : SndA te p n) (i : ∀ ρ Φ, p' ρ Φ → p ρ Φ) : SndA te p' n := fun m ρ Φ q => h m ρ Φ (i ρ Φ q)
theorem ME.imp {X : Cx} {e : Expr} {te : TE} {p p' : PM} (h : ME X e te p) (i : ∀ ρ Φ, p' ρ Φ → p ρ Φ) : ME X e te p' := ⟨h.pe, h.snd.imp i⟩
theorem MT.imp {X : Cx} {e : Expr} {te : TT} {p p' : PTt} (h : MT X e te p) (i : ∀ ρ Φ, p' ρ Φ → p ρ Φ) : MT X e te p' := ⟨h.pt, h.snd.imp i⟩
theorem MW.imp {X : Cx} {e : Expr} {te : TT} {p p' : PTt} (h : MW X e te p) (i : ∀ ρ Φ, p' ρ Φ → p ρ Φ) : MW X e te p' := ⟨h.pw, h.snd.imp i⟩
theorem MA.imp {X : Cx} {es : List Expr} {ta : TA} {p p' : PAa} {n : Nat} (h : MA X es ta p n) (i : ∀ ρ Φ, p' ρ Φ → p ρ Φ) : MA X es ta p' n := ⟨h.pa, h.snd.imp i⟩
theorem of_bind {α β : Type} {a : Option α} {f : α → Option β} {y : β} (h : a.bind f = some y) : ∃ x, a = some x ∧ f x = some y := Option.bind_eq_some_iff.mp h

/-! ### names, constants -/
section
variable {X : Cx} {pos : Pos} {e : Expr} {te : TE}
def fVar (i : Nat) : FM := fun ρ => match ρ[i]? with
  | some (some (.d x)) => some x
  | _ => none
theorem fVar_of {i : Nat} {ρ : DEnv} {x : PyData} (h : fVar i ρ = some x) : ρ[i]? = some (some (.d x)) := by
  unfold fVar at h
  split at h
  · rename_i y q
    cases h
    exact q
  · cases h
theorem snd_var {i : Nat} : SndE (tVar i) (lift (fVar i)) := by
  intro m ρ Φ h σ G H s he Q q
  obtain ⟨x, hx, hΦ⟩ := h
  obtain ⟨v, h1, h2⟩ := he.at_ i _ (fVar_of hx)
  exact ⟨v, h1, q x v G H hΦ (Grow.refl s) h2⟩
theorem fe_var {i : Nat} {x : Str} (h : PE X (.Name x pos) (tVar i)) : FE X (.Name x pos) (tVar i) (fVar i) := ⟨h, snd_var⟩
def fC (x : PyData) : FM := fun _ => some x
theorem snd_c {v : V} {x : PyData} (h : ∀ G, Dd G v x) : SndE (tC v) (lift (fC x)) := by
  intro m ρ Φ ⟨y, hy, hΦ⟩ σ G H s he Q q
  cases hy
  exact q x v G H hΦ (Grow.refl s) (h G)
theorem fe_int {i : Int} {j} : FE X (.Constant (.int i) j pos) (tC (.int i)) (fC (.int i)) := ⟨pe_int, snd_c fun _ => .int i⟩
theorem fe_bl {b : Bool} {j} : FE X (.Constant (.bool b) j pos) (tC (.bl b)) (fC (.bool b)) := ⟨pe_bl, snd_c fun _ => .bl b⟩
theorem fe_non {j} : FE X (.Constant .none j pos) (tC .non) (fC .none) := ⟨pe_non, snd_c fun _ => .non⟩
theorem fe_str {x : Str} {j} : FE X (.Constant (.str x) j pos) (tC (.str x)) (fC (.str x)) := ⟨pe_str, snd_c fun _ => .str x⟩
theorem fe_gint {x : Str} {i : Int} (h : PE X (.Name x pos) (tC (.int i))) : FE X (.Name x pos) (tC (.int i)) (fC (.int i)) := ⟨h, snd_c fun _ => .int i⟩
theorem fe_gstr {x y : Str} (h : PE X (.Name x pos) (tC (.str y))) : FE X (.Name x pos) (tC (.str y)) (fC (.str y)) := ⟨h, snd_c fun _ => .str y⟩
end

/-! ### two-place operations -/
def SndR (r : R2) (fr : PyData → PyData → Option PyData) : Prop := ∀ x y z, fr x y = some z → ∀ (m : Option Addr) (v w : V) (G H : Hp), StOk m G H → Dd G v x → Dd G w y →
  ∀ Q : VK, (∀ u G' H', Grow m G H G' H' → Dd G' u z → Q u H') → r v w H Q
section
variable {X : Cx} {pos : Pos} {a b c : Expr} {ta tb tc : TE} {pa pb pc : PM} {fa fb fc : FM} {r r' : R2} {fr fr' : PyData → PyData → Option PyData}
def pOp (fr : PyData → PyData → Option PyData) (pa pb : PM) : PM := fun ρ Φ => pa ρ fun x => pb ρ fun y => ∃ z, fr x y = some z ∧ Φ z
def fOp (fr : PyData → PyData → Option PyData) (fa fb : FM) : FM := fun ρ => (fa ρ).bind fun x => (fb ρ).bind fun y => fr x y
theorem snd_op (ha : SndE ta pa) (hb : SndE tb pb) (hr : SndR r fr) : SndE (tOp r ta tb) (pOp fr pa pb) := by
  intro m ρ Φ h σ G H s he Q q
  refine ha m ρ _ h σ G H s he _ fun x v G1 H1 h1 w1 d1 => ?_
  refine hb m ρ _ h1 σ G1 H1 w1.st (he.up w1.g) _ fun y w G2 H2 h2 w2 d2 => ?_
  obtain ⟨z, hz, hΦ⟩ := h2
  exact hr x y z hz m v w G2 H2 w2.st (d1.up w2.g) d2 Q fun u G3 H3 w3 d3 => q z u G3 H3 hΦ ((w1.trans w2).trans w3) d3
theorem fop_imp (ρ : DEnv) (Φ : PyData → Prop) (h : lift (fOp fr fa fb) ρ Φ) : pOp fr (lift fa) (lift fb) ρ Φ := by
  obtain ⟨z, hz, hΦ⟩ := h
  obtain ⟨x, hx, hz⟩ := of_bind hz
  obtain ⟨y, hy, hz⟩ := of_bind hz
  exact ⟨x, hx, y, hy, z, hz, hΦ⟩
theorem me_bin {op : Operator} (ho : OpR X (binaryOp op) r) (hr : SndR r fr) (ha : ME X a ta pa) (hb : ME X b tb pb) (h : PE X a ta → PE X b tb → PE X (.BinOp a op b pos) (tOp r ta tb)) : ME X (.BinOp a op b pos) (tOp r ta tb) (pOp fr pa pb) :=
  ⟨h ha.pe hb.pe, snd_op ha.snd hb.snd hr⟩
end
end DL
/-! DL2: operators, comparisons, and, or, not, displays, subscripts, slices over data. -/
namespace DL
open PySem L2
open Evl (Ex)

section
variable {X : Cx} {pos : Pos} {a b c : Expr} {ta tb tc : TE} {pa pb pc : PM} {fa fb fc : FM} {r r' : R2} {fr fr' gr : PyData → PyData → Option PyData}
theorem fe_op {op : Operator} (ho : OpR X (binaryOp op) r) (hr : SndR r fr) (ha : FE X a ta fa) (hb : FE X b tb fb) : FE X (.BinOp a op b pos) (tOp r ta tb) (fOp fr fa fb) :=
  ME.imp ⟨pe_op ho ha.pe hb.pe, snd_op ha.snd hb.snd hr⟩ fop_imp
theorem me_op {op : Operator} (ho : OpR X (binaryOp op) r) (hr : SndR r fr) (ha : ME X a ta pa) (hb : ME X b tb pb) : ME X (.BinOp a op b pos) (tOp r ta tb) (pOp fr pa pb) :=
  ⟨pe_op ho ha.pe hb.pe, snd_op ha.snd hb.snd hr⟩
theorem fe_cmp {op : CmpOp} (ho : OpR X (compareOp op) r) (hr : SndR r fr) (ha : FE X a ta fa) (hb : FE X b tb fb) (hm : behindInMarks op b = false) : FE X (.Compare a [op] [b] pos) (tOp r ta tb) (fOp fr fa fb) :=
  ME.imp ⟨pe_cmpR ho ha.pe hb.pe hm, snd_op ha.snd hb.snd hr⟩ fop_imp
theorem me_cmp {op : CmpOp} (ho : OpR X (compareOp op) r) (hr : SndR r fr) (ha : ME X a ta pa) (hb : ME X b tb pb) (hm : behindInMarks op b = false) : ME X (.Compare a [op] [b] pos) (tOp r ta tb) (pOp fr pa pb) :=
  ⟨pe_cmpR ho ha.pe hb.pe hm, snd_op ha.snd hb.snd hr⟩
theorem fe_ix {r : R2} (hi : IxR X r) (hr : SndR r fr) (ha : FE X a ta fa) (hb : FE X b tb fb) (hs : PlainIx b) : FE X (.Subscript a b pos) (tOp r ta tb) (fOp fr fa fb) :=
  ME.imp ⟨pe_ix hi ha.pe hb.pe hs, snd_op ha.snd hb.snd hr⟩ fop_imp
theorem me_ix {r : R2} (hi : IxR X r) (hr : SndR r fr) (ha : ME X a ta pa) (hb : ME X b tb pb) (hs : PlainIx b) : ME X (.Subscript a b pos) (tOp r ta tb) (pOp fr pa pb) :=
  ⟨pe_ix hi ha.pe hb.pe hs, snd_op ha.snd hb.snd hr⟩

/-! ### bools as tests -/
def asB : PyData → Option Bool
  | .bool b => some b
  | _ => none
theorem asB_of {x : PyData} {b : Bool} (h : asB x = some b) : x = .bool b := by
  cases x <;> first | (cases h; rfl) | cases h
def fTest (f : FM) : FTt := fun ρ => (f ρ).bind asB
def pTest (p : PM) : PTt := fun ρ Φ => p ρ fun x => ∃ b, x = .bool b ∧ Φ b
theorem snd_test {te : TE} {p : PM} (h : SndE te p) : SndT (tTest te) (pTest p) := by
  intro m ρ Φ hp σ G H s he Q q
  refine h m ρ _ hp σ G H s he _ fun x v G1 H1 ⟨b, hx, hΦ⟩ w1 d1 => ?_
  subst hx
  cases d1
  exact ⟨b, rfl, q b G1 H1 hΦ w1⟩
theorem snd_tB {te : TE} {p : PM} (h : SndE te p) : SndT (tB te) (pTest p) := snd_test h
theorem ftest_imp (ρ : DEnv) (Φ : Bool → Prop) (h : lift (fTest fa) ρ Φ) : pTest (lift fa) ρ Φ := by
  obtain ⟨z, hz, hΦ⟩ := h
  obtain ⟨x, hx, hz⟩ := of_bind hz
  exact ⟨x, hx, z, asB_of hz, hΦ⟩
theorem ft_cmp {op : CmpOp} (ho : OpR X (compareOp op) r) (hr : SndR r fr) (ha : FE X a ta fa) (hb : FE X b tb fb) (hm : behindInMarks op b = false) : FT X (.Compare a [op] [b] pos) (tTest (tOp r ta tb)) (fTest (fOp fr fa fb)) :=
  MT.imp ⟨pt_cmpR ho ha.pe hb.pe hm, snd_test ((snd_op ha.snd hb.snd hr).imp fop_imp)⟩ ftest_imp
theorem mt_cmp {op : CmpOp} (ho : OpR X (compareOp op) r) (hr : SndR r fr) (ha : ME X a ta pa) (hb : ME X b tb pb) (hm : behindInMarks op b = false) : MT X (.Compare a [op] [b] pos) (tTest (tOp r ta tb)) (pTest (pOp fr pa pb)) :=
  ⟨pt_cmpR ho ha.pe hb.pe hm, snd_test (snd_op ha.snd hb.snd hr)⟩
theorem ft_val {e : Expr} {te : TE} {f : FM} (h : FE X e te f) (he : PT X e (tB te)) : FT X e (tB te) (fTest f) := MT.imp ⟨he, snd_tB h.snd⟩ ftest_imp
theorem mt_val {e : Expr} {te : TE} {p : PM} (h : ME X e te p) (he : PT X e (tB te)) : MT X e (tB te) (pTest p) := ⟨he, snd_tB h.snd⟩

/-! ### is None -/
def isNoneD (x : PyData) : Bool := match x with
  | .none => true
  | _ => false
def fIsN (f : FM) : FM := fun ρ => (f ρ).map fun x => .bool (isNoneD x)
def fNotN (f : FM) : FM := fun ρ => (f ρ).map fun x => .bool (!isNoneD x)
def pMap (g : PyData → PyData) (p : PM) : PM := fun ρ Φ => p ρ fun x => Φ (g x)
theorem isNone_dec {H : Hp} {v : V} {x : PyData} (h : Dd H v x) : decide (v = V.non) = isNoneD x := by
  cases h <;> first | rfl | (exact decide_eq_false (fun z => nomatch z))
theorem snd_isN (h : SndE ta pa) : SndE (tIsN ta) (pMap (fun x => .bool (isNoneD x)) pa) := by
  intro m ρ Φ hp σ G H s he Q q
  refine h m ρ _ hp σ G H s he _ fun x v G1 H1 hΦ w1 d1 => ?_
  refine q _ _ G1 H1 hΦ w1 ?_
  rw [isNone_dec d1]
  exact .bl _
theorem snd_notN (h : SndE ta pa) : SndE (tNotN ta) (pMap (fun x => .bool (!isNoneD x)) pa) := by
  intro m ρ Φ hp σ G H s he Q q
  refine h m ρ _ hp σ G H s he _ fun x v G1 H1 hΦ w1 d1 => ?_
  refine q _ _ G1 H1 hΦ w1 ?_
  rw [isNone_dec d1]
  exact .bl _
theorem fmap_imp (g : PyData → PyData) (ρ : DEnv) (Φ : PyData → Prop) (h : lift (fun ρ => (fa ρ).map g) ρ Φ) : pMap g (lift fa) ρ Φ := by
  obtain ⟨z, hz, hΦ⟩ := h
  obtain ⟨x, hx, e⟩ := Option.map_eq_some_iff.mp hz
  exact ⟨x, hx, by cases e; exact hΦ⟩
theorem fe_isN {j pos'} (ha : FE X a ta fa) : FE X (.Compare a [.Is] [.Constant .none j pos'] pos) (tIsN ta) (fIsN fa) := ME.imp ⟨pe_cmp (pc_isN ha.pe), snd_isN ha.snd⟩ (fmap_imp _)
theorem fe_notN {j pos'} (ha : FE X a ta fa) : FE X (.Compare a [.IsNot] [.Constant .none j pos'] pos) (tNotN ta) (fNotN fa) := ME.imp ⟨pe_cmp (pc_notN ha.pe), snd_notN ha.snd⟩ (fmap_imp _)
theorem ft_isN {j pos'} (ha : FE X a ta fa) : FT X (.Compare a [.Is] [.Constant .none j pos'] pos) (tB (tIsN ta)) (fTest (fIsN fa)) := MT.imp ⟨pt_cmp (pc_isN ha.pe), snd_tB ((snd_isN ha.snd).imp (fmap_imp _))⟩ ftest_imp
theorem ft_notN {j pos'} (ha : FE X a ta fa) : FT X (.Compare a [.IsNot] [.Constant .none j pos'] pos) (tB (tNotN ta)) (fTest (fNotN fa)) := MT.imp ⟨pt_cmp (pc_notN ha.pe), snd_tB ((snd_notN ha.snd).imp (fmap_imp _))⟩ ftest_imp

/-! ### and, or, not, if-else, chains -/
def fAndV (fa fb : FM) : FM := fun ρ => (fTest fa ρ).bind fun k => if k = true then fb ρ else some (.bool false)
def fOrV (fa fb : FM) : FM := fun ρ => (fTest fa ρ).bind fun k => if k = true then some (.bool true) else fb ρ
def fNotV (fa : FM) : FM := fun ρ => (fTest fa ρ).map fun k => .bool (!k)
def pAndV (pa pb : PM) : PM := fun ρ Φ => pTest pa ρ fun k => if k = true then pb ρ Φ else Φ (.bool false)
def pOrV (pa pb : PM) : PM := fun ρ Φ => pTest pa ρ fun k => if k = true then Φ (.bool true) else pb ρ Φ
def pNotV (pa : PM) : PM := fun ρ Φ => pTest pa ρ fun k => Φ (.bool (!k))
def fAnd (fa fb : FTt) : FTt := fun ρ => (fa ρ).bind fun k => if k = true then fb ρ else some false
def fOr (fa fb : FTt) : FTt := fun ρ => (fa ρ).bind fun k => if k = true then some true else fb ρ
def fNot (fa : FTt) : FTt := fun ρ => (fa ρ).map fun k => !k
def pAnd (pa pb : PTt) : PTt := fun ρ Φ => pa ρ fun k => if k = true then pb ρ Φ else Φ false
def pOr (pa pb : PTt) : PTt := fun ρ Φ => pa ρ fun k => if k = true then Φ true else pb ρ Φ
def pNot (pa : PTt) : PTt := fun ρ Φ => pa ρ fun k => Φ (!k)
def fIf (ft : FTt) (fa fb : FM) : FM := fun ρ => (ft ρ).bind fun k => if k = true then fa ρ else fb ρ
def pIf (pt : PTt) (pa pb : PM) : PM := fun ρ Φ => pt ρ fun k => if k = true then pa ρ Φ else pb ρ Φ
def fChain (fr gr : PyData → PyData → Option PyData) (fa fb fc : FM) : FM := fun ρ => (fa ρ).bind fun x => (fb ρ).bind fun y => ((fr x y).bind asB).bind fun k => if k = true then (fc ρ).bind fun z => gr y z else some (.bool false)
theorem snd_andV (ha : SndE ta pa) (hb : SndE tb pb) : SndE (tAndV ta tb) (pAndV pa pb) := by
  intro m ρ Φ hp σ G H s he Q q
  refine ha m ρ _ hp σ G H s he _ fun x v G1 H1 ⟨k, hx, hk⟩ w1 d1 => ?_
  subst hx
  cases d1
  refine ⟨k, rfl, ?_⟩
  cases k with
  | true => exact hb m ρ Φ hk σ G1 H1 w1.st (he.up w1.g) Q fun x v G2 H2 h2 w2 d2 => q x v G2 H2 h2 (w1.trans w2) d2
  | false => exact q _ _ G1 H1 hk w1 (.bl false)
theorem snd_orV (ha : SndE ta pa) (hb : SndE tb pb) : SndE (tOrV ta tb) (pOrV pa pb) := by
  intro m ρ Φ hp σ G H s he Q q
  refine ha m ρ _ hp σ G H s he _ fun x v G1 H1 ⟨k, hx, hk⟩ w1 d1 => ?_
  subst hx
  cases d1
  refine ⟨k, rfl, ?_⟩
  cases k with
  | false => exact hb m ρ Φ hk σ G1 H1 w1.st (he.up w1.g) Q fun x v G2 H2 h2 w2 d2 => q x v G2 H2 h2 (w1.trans w2) d2
  | true => exact q _ _ G1 H1 hk w1 (.bl true)
theorem snd_notV (ha : SndE ta pa) : SndE (tNotV ta) (pNotV pa) := by
  intro m ρ Φ hp σ G H s he Q q
  refine ha m ρ _ hp σ G H s he _ fun x v G1 H1 ⟨k, hx, hk⟩ w1 d1 => ?_
  subst hx
  cases d1
  exact ⟨k, rfl, q _ _ G1 H1 hk w1 (.bl _)⟩
theorem snd_and {tt tu : TT} {pt pu : PTt} (ha : SndT tt pt) (hb : SndT tu pu) : SndT (tAnd tt tu) (pAnd pt pu) := by
  intro m ρ Φ hp σ G H s he Q q
  refine ha m ρ _ hp σ G H s he _ fun k G1 H1 hk w1 => ?_
  cases k with
  | true => exact hb m ρ Φ hk σ G1 H1 w1.st (he.up w1.g) Q fun b G2 H2 h2 w2 => q b G2 H2 h2 (w1.trans w2)
  | false => exact q _ G1 H1 hk w1
theorem snd_or {tt tu : TT} {pt pu : PTt} (ha : SndT tt pt) (hb : SndT tu pu) : SndT (tOr tt tu) (pOr pt pu) := by
  intro m ρ Φ hp σ G H s he Q q
  refine ha m ρ _ hp σ G H s he _ fun k G1 H1 hk w1 => ?_
  cases k with
  | false => exact hb m ρ Φ hk σ G1 H1 w1.st (he.up w1.g) Q fun b G2 H2 h2 w2 => q b G2 H2 h2 (w1.trans w2)
  | true => exact q _ G1 H1 hk w1
theorem snd_not {tt : TT} {pt : PTt} (ha : SndT tt pt) : SndT (tNot tt) (pNot pt) := by
  intro m ρ Φ hp σ G H s he Q q
  exact ha m ρ _ hp σ G H s he _ fun k G1 H1 hk w1 => q _ G1 H1 hk w1
theorem snd_if {tt : TT} {pt : PTt} (ht : SndT tt pt) (ha : SndE ta pa) (hb : SndE tb pb) : SndE (tIf tt ta tb) (pIf pt pa pb) := by
  intro m ρ Φ hp σ G H s he Q q
  refine ht m ρ _ hp σ G H s he _ fun k G1 H1 hk w1 => ?_
  cases k with
  | true => exact ha m ρ Φ hk σ G1 H1 w1.st (he.up w1.g) Q fun x v G2 H2 h2 w2 d2 => q x v G2 H2 h2 (w1.trans w2) d2
  | false => exact hb m ρ Φ hk σ G1 H1 w1.st (he.up w1.g) Q fun x v G2 H2 h2 w2 d2 => q x v G2 H2 h2 (w1.trans w2) d2
theorem snd_chain (ha : SndE ta (lift fa)) (hb : SndE tb (lift fb)) (hc : SndE tc (lift fc)) (hr : SndR r fr) (hr' : SndR r' gr) : SndE (tChain r r' ta tb tc) (lift (fChain fr gr fa fb fc)) := by
  intro m ρ Φ hp σ G H s he Q q
  obtain ⟨u, hu, hΦ⟩ := hp
  obtain ⟨x, hx, hu⟩ := of_bind hu
  obtain ⟨y, hy, hu⟩ := of_bind hu
  obtain ⟨k, hk, hu⟩ := of_bind hu
  obtain ⟨kd, hkd, hkb⟩ := of_bind hk
  refine ha m ρ (fun z => z = x) ⟨x, hx, rfl⟩ σ G H s he _ fun x' v G1 H1 e1 w1 d1 => ?_
  subst e1
  refine hb m ρ (fun z => z = y) ⟨y, hy, rfl⟩ σ G1 H1 w1.st (he.up w1.g) _ fun y' w G2 H2 e2 w2 d2 => ?_
  subst e2
  refine hr x' y' kd hkd m v w G2 H2 w2.st (d1.up w2.g) d2 _ fun z G3 H3 w3 d3 => ?_
  rw [asB_of hkb] at d3
  cases d3
  refine ⟨k, rfl, ?_⟩
  have w13 := (w1.trans w2).trans w3
  cases k with
  | true =>
    obtain ⟨z, hz, hu⟩ := of_bind hu
    refine hc m ρ (fun t => t = z) ⟨z, hz, rfl⟩ σ G3 H3 w3.st (he.up w13.g) _ fun z' t G4 H4 e4 w4 d4 => ?_
    subst e4
    exact hr' y' z' u hu m w t G4 H4 w4.st (d2.up (w3.g.trans w4.g)) d4 Q fun t' G5 H5 w5 d5 => q u t' G5 H5 hΦ ((w13.trans w4).trans w5) d5
  | false =>
    cases hu
    exact q _ _ G3 H3 hΦ w13 (.bl false)
theorem fandV_imp (ρ : DEnv) (Φ : PyData → Prop) (h : lift (fAndV fa fb) ρ Φ) : pAndV (lift fa) (lift fb) ρ Φ := by
  obtain ⟨z, hz, hΦ⟩ := h
  obtain ⟨k, hk, hz⟩ := of_bind hz
  refine ftest_imp ρ _ ⟨k, hk, ?_⟩
  cases k with
  | true => exact ⟨z, hz, hΦ⟩
  | false => cases hz; exact hΦ
theorem forV_imp (ρ : DEnv) (Φ : PyData → Prop) (h : lift (fOrV fa fb) ρ Φ) : pOrV (lift fa) (lift fb) ρ Φ := by
  obtain ⟨z, hz, hΦ⟩ := h
  obtain ⟨k, hk, hz⟩ := of_bind hz
  refine ftest_imp ρ _ ⟨k, hk, ?_⟩
  cases k with
  | false => exact ⟨z, hz, hΦ⟩
  | true => cases hz; exact hΦ
theorem fnotV_imp (ρ : DEnv) (Φ : PyData → Prop) (h : lift (fNotV fa) ρ Φ) : pNotV (lift fa) ρ Φ := by
  obtain ⟨z, hz, hΦ⟩ := h
  obtain ⟨k, hk, e⟩ := Option.map_eq_some_iff.mp hz
  subst e
  exact ftest_imp ρ _ ⟨k, hk, hΦ⟩
section
variable {ft fu : FTt} {tt tu : TT} {pt pu : PTt} {rest : List Expr}
theorem fand_imp (ρ : DEnv) (Φ : Bool → Prop) (h : lift (fAnd ft fu) ρ Φ) : pAnd (lift ft) (lift fu) ρ Φ := by
  obtain ⟨z, hz, hΦ⟩ := h
  obtain ⟨k, hk, hz⟩ := of_bind hz
  refine ⟨k, hk, ?_⟩
  cases k with
  | true => exact ⟨z, hz, hΦ⟩
  | false => cases hz; exact hΦ
theorem for_imp (ρ : DEnv) (Φ : Bool → Prop) (h : lift (fOr ft fu) ρ Φ) : pOr (lift ft) (lift fu) ρ Φ := by
  obtain ⟨z, hz, hΦ⟩ := h
  obtain ⟨k, hk, hz⟩ := of_bind hz
  refine ⟨k, hk, ?_⟩
  cases k with
  | false => exact ⟨z, hz, hΦ⟩
  | true => cases hz; exact hΦ
theorem fnot_imp (ρ : DEnv) (Φ : Bool → Prop) (h : lift (fNot ft) ρ Φ) : pNot (lift ft) ρ Φ := by
  obtain ⟨z, hz, hΦ⟩ := h
  obtain ⟨k, hk, e⟩ := Option.map_eq_some_iff.mp hz
  subst e
  exact ⟨k, hk, hΦ⟩
theorem fif_imp (ρ : DEnv) (Φ : PyData → Prop) (h : lift (fIf ft fa fb) ρ Φ) : pIf (lift ft) (lift fa) (lift fb) ρ Φ := by
  obtain ⟨z, hz, hΦ⟩ := h
  obtain ⟨k, hk, hz⟩ := of_bind hz
  refine ⟨k, hk, ?_⟩
  cases k with
  | true => exact ⟨z, hz, hΦ⟩
  | false => exact ⟨z, hz, hΦ⟩
theorem fe_one {op} (h : FE X a ta fa) : FE X (.BoolOp op [a] pos) ta fa := ⟨pe_one h.pe, h.snd⟩
theorem fe_and (ha : FE X a ta fa) (hb : FE X (.BoolOp .And (b :: rest) pos) tb fb) : FE X (.BoolOp .And (a :: b :: rest) pos) (tAndV ta tb) (fAndV fa fb) := ME.imp ⟨pe_and ha.pe hb.pe, snd_andV ha.snd hb.snd⟩ fandV_imp
theorem fe_or (ha : FE X a ta fa) (hb : FE X (.BoolOp .Or (b :: rest) pos) tb fb) : FE X (.BoolOp .Or (a :: b :: rest) pos) (tOrV ta tb) (fOrV fa fb) := ME.imp ⟨pe_or ha.pe hb.pe, snd_orV ha.snd hb.snd⟩ forV_imp
theorem fe_not (ha : FE X a ta fa) : FE X (.UnaryOp .Not a pos) (tNotV ta) (fNotV fa) := ME.imp ⟨pe_not ha.pe, snd_notV ha.snd⟩ fnotV_imp
theorem me_one {op} (h : ME X a ta pa) : ME X (.BoolOp op [a] pos) ta pa := ⟨pe_one h.pe, h.snd⟩
theorem me_and (ha : ME X a ta pa) (hb : ME X (.BoolOp .And (b :: rest) pos) tb pb) : ME X (.BoolOp .And (a :: b :: rest) pos) (tAndV ta tb) (pAndV pa pb) := ⟨pe_and ha.pe hb.pe, snd_andV ha.snd hb.snd⟩
theorem me_or (ha : ME X a ta pa) (hb : ME X (.BoolOp .Or (b :: rest) pos) tb pb) : ME X (.BoolOp .Or (a :: b :: rest) pos) (tOrV ta tb) (pOrV pa pb) := ⟨pe_or ha.pe hb.pe, snd_orV ha.snd hb.snd⟩
theorem fw_and1 (h : FT X a tt ft) : FW X (.BoolOp .And [a] pos) tt ft := ⟨pw_and1 h.pt, h.snd⟩
theorem fw_or1 (h : FT X a tt ft) : FW X (.BoolOp .Or [a] pos) tt ft := ⟨pw_or1 h.pt, h.snd⟩
theorem fw_and (ha : FT X a tt ft) (hb : FW X (.BoolOp .And (b :: rest) pos) tu fu) : FW X (.BoolOp .And (a :: b :: rest) pos) (tAnd tt tu) (fAnd ft fu) := MW.imp ⟨pw_and ha.pt hb.pw, snd_and ha.snd hb.snd⟩ fand_imp
theorem fw_or (ha : FT X a tt ft) (hb : FW X (.BoolOp .Or (b :: rest) pos) tu fu) : FW X (.BoolOp .Or (a :: b :: rest) pos) (tOr tt tu) (fOr ft fu) := MW.imp ⟨pw_or ha.pt hb.pw, snd_or ha.snd hb.snd⟩ for_imp
theorem ft_w (h : FW X a tt ft) : FT X a tt ft := ⟨h.pw.pt, h.snd⟩
theorem ft_not (ha : FT X a tt ft) : FT X (.UnaryOp .Not a pos) (tNot tt) (fNot ft) := MT.imp ⟨pt_not ha.pt, snd_not ha.snd⟩ fnot_imp
theorem mw_or1 (h : MT X a tt pt) : MW X (.BoolOp .Or [a] pos) tt pt := ⟨pw_or1 h.pt, h.snd⟩
theorem mw_or (ha : MT X a tt pt) (hb : MW X (.BoolOp .Or (b :: rest) pos) tu pu) : MW X (.BoolOp .Or (a :: b :: rest) pos) (tOr tt tu) (pOr pt pu) := ⟨pw_or ha.pt hb.pw, snd_or ha.snd hb.snd⟩
theorem mt_w (h : MW X a tt pt) : MT X a tt pt := ⟨h.pw.pt, h.snd⟩
theorem mt_not (ha : MT X a tt pt) : MT X (.UnaryOp .Not a pos) (tNot tt) (pNot pt) := ⟨pt_not ha.pt, snd_not ha.snd⟩
theorem fe_if (ht : FT X c tt ft) (ha : FE X a ta fa) (hb : FE X b tb fb) : FE X (.IfExp c a b pos) (tIf tt ta tb) (fIf ft fa fb) := ME.imp ⟨pe_ifExp ht.pt ha.pe hb.pe, snd_if ht.snd ha.snd hb.snd⟩ fif_imp
theorem me_if (ht : MT X c tt pt) (ha : ME X a ta pa) (hb : ME X b tb pb) : ME X (.IfExp c a b pos) (tIf tt ta tb) (pIf pt pa pb) := ⟨pe_ifExp ht.pt ha.pe hb.pe, snd_if ht.snd ha.snd hb.snd⟩
end
theorem fe_chain {op op' : CmpOp} (ho : OpR X (compareOp op) r) (ho' : OpR X (compareOp op') r') (hr : SndR r fr) (hr' : SndR r' gr) (ha : FE X a ta fa) (hb : FE X b tb fb) (hc : FE X c tc fc)
    (hm : lastMarks [op, op'] [b, c] = false := by with_unfolding_all rfl) : FE X (.Compare a [op, op'] [b, c] pos) (tChain r r' ta tb tc) (fChain fr gr fa fb fc) :=
  ⟨pe_chain ho ho' ha.pe hb.pe hc.pe hm, snd_chain ha.snd hb.snd hc.snd hr hr'⟩

/-! ### argument lists, displays -/
def fNil : FAa := fun _ => some []
def fCons (f : FM) (g : FAa) : FAa := fun ρ => (f ρ).bind fun x => (g ρ).map fun xs => x :: xs
def pNil : PAa := fun _ Φ => Φ []
def pCons (p : PM) (q : PAa) : PAa := fun ρ Φ => p ρ fun x => q ρ fun xs => Φ (x :: xs)
def fTup (f : FAa) : FM := fun ρ => (f ρ).map fun xs => .tuple xs
def fLst (f : FAa) : FM := fun ρ => (f ρ).map fun xs => .list xs
def pTup (p : PAa) : PM := fun ρ Φ => p ρ fun xs => Φ (.tuple xs)
def pLst (p : PAa) : PM := fun ρ Φ => p ρ fun xs => Φ (.list xs)
section
variable {e : Expr} {es : List Expr} {te : TE} {tr : TA} {p : PM} {q : PAa} {f : FM} {g : FAa} {n : Nat}
theorem snd_nil : SndA tNil pNil 0 := by
  intro m ρ Φ h σ G H s he Q k
  exact k [] [] G H h rfl (Grow.refl s) .nil
theorem snd_cons (h1 : SndE te p) (h2 : SndA tr q n) : SndA (tCons te tr) (pCons p q) (n + 1) := by
  intro m ρ Φ h σ G H s he Q k
  refine h1 m ρ _ h σ G H s he _ fun x v G1 H1 a1 w1 d1 => ?_
  exact h2 m ρ _ a1 σ G1 H1 w1.st (he.up w1.g) _ fun xs vs G2 H2 a2 l2 w2 d2 => k _ _ G2 H2 a2 (by rw [List.length_cons, l2]) (w1.trans w2) (.cons (d1.up w2.g) d2)
theorem ma_nil : MA X [] tNil pNil 0 := ⟨pa_nil, snd_nil⟩
theorem ma_cons (h1 : ME X e te p) (h2 : MA X es tr q n) (hs : starEach (e :: es) X.env = (false, eval e X.env) :: starEach es X.env := by rfl) : MA X (e :: es) (tCons te tr) (pCons p q) (n + 1) :=
  ⟨pa_cons h1.pe h2.pa hs, snd_cons h1.snd h2.snd⟩
theorem fcons_imp (ρ : DEnv) (Φ : List PyData → Prop) (h : lift (fCons f g) ρ Φ) : pCons (lift f) (lift g) ρ Φ := by
  obtain ⟨z, hz, hΦ⟩ := h
  obtain ⟨x, hx, hz⟩ := of_bind hz
  obtain ⟨xs, hxs, e⟩ := Option.map_eq_some_iff.mp hz
  subst e
  exact ⟨x, hx, xs, hxs, hΦ⟩
theorem fa_nil : FA X [] tNil fNil 0 := ma_nil.imp fun ρ Φ ⟨z, hz, h⟩ => by cases hz; exact h
theorem fa_cons (h1 : FE X e te f) (h2 : FA X es tr g n) (hs : starEach (e :: es) X.env = (false, eval e X.env) :: starEach es X.env := by rfl) : FA X (e :: es) (tCons te tr) (fCons f g) (n + 1) :=
  (ma_cons h1 h2 hs).imp fcons_imp
theorem snd_tup (h : SndA tr q n) (hn : n ≤ sizeLine) : SndE (tTup tr) (pTup q) := by
  intro m ρ Φ hp σ G H s he Q k
  refine h m ρ _ hp σ G H s he _ fun xs vs G1 H1 hΦ hl w1 d1 => ⟨by rw [d1.len, hl]; exact hn, fun p hp => ?_⟩
  have w2 := Grow.new (o := .tup vs) w1.st hp
  exact k _ _ _ _ hΦ (w1.trans w2) (.tup upd_same (d1.up w2.g))
theorem snd_lst (h : SndA tr q n) (hn : n ≤ sizeLine) : SndE (tLst tr) (pLst q) := by
  intro m ρ Φ hp σ G H s he Q k
  refine h m ρ _ hp σ G H s he _ fun xs vs G1 H1 hΦ hl w1 d1 => ⟨by rw [d1.len, hl]; exact hn, fun p hp => ?_⟩
  have w2 := Grow.new (o := .lst vs) w1.st hp
  exact k _ _ _ _ hΦ (w1.trans w2) (.lst upd_same (d1.up w2.g))
theorem ftup_imp (ρ : DEnv) (Φ : PyData → Prop) (h : lift (fTup g) ρ Φ) : pTup (lift g) ρ Φ := by
  obtain ⟨z, hz, hΦ⟩ := h
  obtain ⟨x, hx, e⟩ := Option.map_eq_some_iff.mp hz
  exact ⟨x, hx, by cases e; exact hΦ⟩
theorem flst_imp (ρ : DEnv) (Φ : PyData → Prop) (h : lift (fLst g) ρ Φ) : pLst (lift g) ρ Φ := by
  obtain ⟨z, hz, hΦ⟩ := h
  obtain ⟨x, hx, e⟩ := Option.map_eq_some_iff.mp hz
  exact ⟨x, hx, by cases e; exact hΦ⟩
theorem me_tup {x1} (h : MA X es tr q n) (hn : n ≤ sizeLine := by decide) : ME X (.Tuple es x1 pos) (tTup tr) (pTup q) := ⟨pe_tup h.pa, snd_tup h.snd hn⟩
theorem fe_tup {x1} (h : FA X es tr g n) (hn : n ≤ sizeLine := by decide) : FE X (.Tuple es x1 pos) (tTup tr) (fTup g) := (me_tup h hn).imp ftup_imp
theorem fe_lst (h : FA X es tr g n) (hn : n ≤ sizeLine := by decide) : FE X (.List es pos) (tLst tr) (fLst g) := ME.imp ⟨pe_lst h.pa, snd_lst h.snd hn⟩ flst_imp
end
end

/-! ### operators by data -/
def cap : Nat := 1000000
theorem cap_line {n : Nat} (h : n ≤ cap) : n ≤ sizeLine := Nat.le_trans h (by decide)
def addD : PyData → PyData → Option PyData
  | .int i, .int j => some (.int (i + j))
  | .list xs, .list ys => if xs.length + ys.length ≤ cap then some (.list (xs ++ ys)) else none
  | .tuple xs, .tuple ys => if xs.length + ys.length ≤ cap then some (.tuple (xs ++ ys)) else none
  | _, _ => none
def subD : PyData → PyData → Option PyData
  | .int i, .int j => some (.int (i - j))
  | _, _ => none
def mulD : PyData → PyData → Option PyData
  | .int i, .int j => if -(2 ^ 64) < i ∧ i < 2 ^ 64 then some (.int (i * j)) else none
  | _, _ => none
def cmpD (p : Int → Int → Bool) : PyData → PyData → Option PyData
  | .int i, .int j => some (.bool (p i j))
  | _, _ => none
def intsOf : List PyData → Option (List Int)
  | [] => some []
  | .int i :: r => (intsOf r).map fun ns => i :: ns
  | _ :: _ => none
def boolsOf : List PyData → Option (List Bool)
  | [] => some []
  | .bool i :: r => (boolsOf r).map fun ns => i :: ns
  | _ :: _ => none
theorem intsOf_eq : ∀ {xs : List PyData} {ns : List Int}, intsOf xs = some ns → xs = ns.map PyData.int
  | [], ns, h => by cases h; rfl
  | x :: r, ns, h => by
    cases x <;> first | (cases h; done) | skip
    obtain ⟨ms, hm, e⟩ := Option.map_eq_some_iff.mp h
    subst e
    rw [intsOf_eq hm] <;> rfl
theorem boolsOf_eq : ∀ {xs : List PyData} {ns : List Bool}, boolsOf xs = some ns → xs = ns.map PyData.bool
  | [], ns, h => by cases h; rfl
  | x :: r, ns, h => by
    cases x <;> first | (cases h; done) | skip
    obtain ⟨ms, hm, e⟩ := Option.map_eq_some_iff.mp h
    subst e
    rw [boolsOf_eq hm] <;> rfl
def ltD : PyData → PyData → Option PyData
  | .int i, .int j => some (.bool (decide (i < j)))
  | .tuple xs, .tuple ys => (intsOf xs).bind fun ns => (intsOf ys).map fun ms => .bool (HT.lexLt ns ms)
  | _, _ => none
def eqD (x y : PyData) : Option PyData := if (SeqAt.shaped x && SeqAt.shaped y) = true then some (.bool (PyData.eqv x y)) else none
def neD (x y : PyData) : Option PyData := if (SeqAt.shaped x && SeqAt.shaped y) = true then some (.bool (!PyData.eqv x y)) else none
def inL (x : PyData) (ys : List PyData) : Bool := ys.any fun z => PyData.eqv z x
def inD (x y : PyData) : Option PyData := match y with
  | .list ys => if (SeqAt.shaped x && SeqAt.shaped (.list ys)) = true then some (.bool (inL x ys)) else none
  | .tuple ys => if (SeqAt.shaped x && SeqAt.shaped (.tuple ys)) = true then some (.bool (inL x ys)) else none
  | _ => none
def notInD (x y : PyData) : Option PyData := match y with
  | .list ys => if (SeqAt.shaped x && SeqAt.shaped (.list ys)) = true then some (.bool (!inL x ys)) else none
  | .tuple ys => if (SeqAt.shaped x && SeqAt.shaped (.tuple ys)) = true then some (.bool (!inL x ys)) else none
  | _ => none
def isNotB (x y : PyData) : Option PyData := match x, y with
  | .bool a, .bool b => some (.bool (!decide (a = b)))
  | _, _ => none
def ixD (x y : PyData) : Option PyData := match x, y with
  | .list xs, .int i => atI xs i
  | .tuple xs, .int i => atI xs i
  | _, _ => none

abbrev rAddA (K : PySem.W.Frag) : R2 := fun x y H Q => rI0 (fun i j => .int (i + j)) x y H Q ∨ rCat x y H Q ∨ rCatA K x y H Q
abbrev rLtA (K : PySem.W.Frag) : R2 := fun x y H Q => rI0 (fun i j => .bl (decide (i < j))) x y H Q ∨ rLtT K x y H Q
abbrev rIxA (K : PySem.W.Frag) : R2 := fun x y H Q => rIxL K x y H Q ∨ rIxT K x y H Q
def rInT (K : PySem.W.Frag) : R2 := fun x y H Q => ∃ d ds, Dp K H x d ∧ Dp K H y (.tuple ds) ∧ SeqAt.shaped d = true ∧ SeqAt.shaped (.tuple ds) = true ∧ Q (.bl (ds.any fun z => PyData.eqv z d)) H
def rNotInT (K : PySem.W.Frag) : R2 := fun x y H Q => ∃ d ds, Dp K H x d ∧ Dp K H y (.tuple ds) ∧ SeqAt.shaped d = true ∧ SeqAt.shaped (.tuple ds) = true ∧ Q (.bl (!ds.any fun z => PyData.eqv z d)) H
abbrev rInA (K : PySem.W.Frag) : R2 := fun x y H Q => rInD K x y H Q ∨ rInT K x y H Q
abbrev rNotInA (K : PySem.W.Frag) : R2 := fun x y H Q => rNotInD K x y H Q ∨ rNotInT K x y H Q
section
variable {X : Cx}
theorem op_inT (hu : X.A.units + 65 < cLine) : OpR X (compareOp .In) (rInT X.K) := by
  intro pins s σ H x y v u Q I rx ry h
  obtain ⟨d, ds, hd, he, sd, se, q⟩ := h
  obtain ⟨as, r1⟩ := Dp.reads I d x v hd rx
  obtain ⟨bs, r2⟩ := Dp.reads I (.tuple ds) y u he ry
  exact SeqAt.in_tuple_reads r2 r1 (SeqAt.canLay_of_shaped se) (SeqAt.canLay_of_shaped sd) (PyProof.Rows.room_in_shaped sd hu) ⟨.bl _, H, I, rfl, q⟩
theorem op_notInT (hu : X.A.units + 65 < cLine) : OpR X (compareOp .NotIn) (rNotInT X.K) := by
  intro pins s σ H x y v u Q I rx ry h
  obtain ⟨d, ds, hd, he, sd, se, q⟩ := h
  obtain ⟨as, r1⟩ := Dp.reads I d x v hd rx
  obtain ⟨bs, r2⟩ := Dp.reads I (.tuple ds) y u he ry
  exact SeqAt.notIn_tuple_reads r2 r1 (SeqAt.canLay_of_shaped se) (SeqAt.canLay_of_shaped sd) (PyProof.Rows.room_in_shaped sd hu) ⟨.bl _, H, I, rfl, q⟩
theorem op_addA : OpR X (binaryOp .Add) (rAddA X.K) := op_add.or (op_cat.or op_catA)
theorem op_ltA (hu : X.A.units < cLine) : OpR X (compareOp .Lt) (rLtA X.K) := op_lt.or (op_ltT hu)
theorem ix_A : IxR X (rIxA X.K) := ix_list.or ix_tup
theorem op_inA (hu : X.A.units + 65 < cLine) : OpR X (compareOp .In) (rInA X.K) := (op_inD hu).or (op_inT hu)
theorem op_notInA (hu : X.A.units + 65 < cLine) : OpR X (compareOp .NotIn) (rNotInA X.K) := (op_notInD hu).or (op_notInT hu)
end
section
variable {K : PySem.W.Frag}
theorem sr_add : SndR (rAddA K) addD := by
  intro x y z h m v w G H s dx dy Q q
  unfold addD at h
  split at h
  · cases dx; cases dy; cases h
    exact .inl ⟨_, _, rfl, rfl, q _ G H (Grow.refl s) (.int _)⟩
  · split at h
    · rename_i hl
      cases h
      cases dx with
      | lst e1 a1 =>
        cases dy with
        | lst e2 a2 =>
          refine .inr (.inl ⟨_, _, _, _, rfl, rfl, s.ex _ _ e1, s.ex _ _ e2, by rw [a1.len, a2.len]; exact cap_line hl, fun p hp => ?_⟩)
          exact q _ _ _ (Grow.new s hp) (.lst upd_same ((a1.app a2).up (Grow.new s hp).g))
    · cases h
  · split at h
    · rename_i hl
      cases h
      cases dx with
      | tup e1 a1 =>
        cases dy with
        | tup e2 a2 =>
          refine .inr (.inr ⟨_, _, _, _, rfl, rfl, SqT.of (s.ex _ _ e1), SqT.of (s.ex _ _ e2), by rw [a1.len, a2.len]; exact cap_line hl, fun z => ?_, fun _ z => ?_, fun _ _ p hp => ?_⟩)
          · subst z
            cases a1
            exact q _ _ _ (Grow.refl s) (.tup e2 a2)
          · subst z
            cases a2
            refine q _ _ _ (Grow.refl s) ?_
            rw [List.append_nil]
            exact .tup e1 a1
          · exact q _ _ _ (Grow.new s hp) (.tup upd_same ((a1.app a2).up (Grow.new s hp).g))
    · cases h
  · cases h
theorem sr_sub : SndR (rI0 fun i j => .int (i - j)) subD := by
  intro x y z h m v w G H s dx dy Q q
  unfold subD at h
  split at h
  · cases dx; cases dy; cases h
    exact ⟨_, _, rfl, rfl, q _ G H (Grow.refl s) (.int _)⟩
  · cases h
theorem sr_mul : SndR (rI CMul fun i j => .int (i * j)) mulD := by
  intro x y z h m v w G H s dx dy Q q
  unfold mulD at h
  split at h
  · split at h
    · rename_i hc
      cases dx; cases dy; cases h
      exact ⟨_, _, rfl, rfl, .inl hc, q _ G H (Grow.refl s) (.int _)⟩
    · cases h
  · cases h
theorem sr_cmp {p : Int → Int → Bool} : SndR (rI0 fun i j => .bl (p i j)) (cmpD p) := by
  intro x y z h m v w G H s dx dy Q q
  unfold cmpD at h
  split at h
  · cases dx; cases dy; cases h
    exact ⟨_, _, rfl, rfl, q _ G H (Grow.refl s) (.bl _)⟩
  · cases h
theorem sr_lt : SndR (rLtA K) ltD := by
  intro x y z h m v w G H s dx dy Q q
  unfold ltD at h
  split at h
  · cases dx; cases dy; cases h
    exact .inl ⟨_, _, rfl, rfl, q _ G H (Grow.refl s) (.bl _)⟩
  · obtain ⟨ns, hn, h⟩ := of_bind h
    obtain ⟨ms, hm, e⟩ := Option.map_eq_some_iff.mp h
    subst e
    rw [intsOf_eq hn] at dx
    rw [intsOf_eq hm] at dy
    cases dx with
    | tup e1 a1 =>
      cases dy with
      | tup e2 a2 =>
        rw [a1.ints] at e1
        rw [a2.ints] at e2
        exact .inr ⟨_, _, ns, ms, rfl, rfl, SqT.of (s.ex _ _ e1), SqT.of (s.ex _ _ e2), q _ G H (Grow.refl s) (.bl _)⟩
  · cases h
theorem sr_eq : SndR (rEqD K) eqD := by
  intro x y z h m v w G H s dx dy Q q
  unfold eqD at h
  split at h
  · rename_i hc
    cases h
    rw [Bool.and_eq_true] at hc
    exact ⟨x, y, (dx.up s.ex).p, (dy.up s.ex).p, hc.1, hc.2, q _ G H (Grow.refl s) (.bl _)⟩
  · cases h
theorem sr_ne : SndR (rNeD K) neD := by
  intro x y z h m v w G H s dx dy Q q
  unfold neD at h
  split at h
  · rename_i hc
    cases h
    rw [Bool.and_eq_true] at hc
    exact ⟨x, y, (dx.up s.ex).p, (dy.up s.ex).p, hc.1, hc.2, q _ G H (Grow.refl s) (.bl _)⟩
  · cases h
theorem sr_in : SndR (rInA K) inD := by
  intro x y z h m v w G H s dx dy Q q
  unfold inD at h
  split at h
  · split at h
    · rename_i hc
      cases h
      rw [Bool.and_eq_true] at hc
      exact .inl ⟨x, _, (dx.up s.ex).p, (dy.up s.ex).p, hc.1, hc.2, q _ G H (Grow.refl s) (.bl _)⟩
    · cases h
  · split at h
    · rename_i hc
      cases h
      rw [Bool.and_eq_true] at hc
      exact .inr ⟨x, _, (dx.up s.ex).p, (dy.up s.ex).p, hc.1, hc.2, q _ G H (Grow.refl s) (.bl _)⟩
    · cases h
  · cases h
theorem sr_notIn : SndR (rNotInA K) notInD := by
  intro x y z h m v w G H s dx dy Q q
  unfold notInD at h
  split at h
  · split at h
    · rename_i hc
      cases h
      rw [Bool.and_eq_true] at hc
      exact .inl ⟨x, _, (dx.up s.ex).p, (dy.up s.ex).p, hc.1, hc.2, q _ G H (Grow.refl s) (.bl _)⟩
    · cases h
  · split at h
    · rename_i hc
      cases h
      rw [Bool.and_eq_true] at hc
      exact .inr ⟨x, _, (dx.up s.ex).p, (dy.up s.ex).p, hc.1, hc.2, q _ G H (Grow.refl s) (.bl _)⟩
    · cases h
  · cases h
theorem sr_isNotB : SndR rNotB isNotB := by
  intro x y z h m v w G H s dx dy Q q
  unfold isNotB at h
  split at h
  · cases dx; cases dy; cases h
    exact ⟨_, _, rfl, rfl, q _ G H (Grow.refl s) (.bl _)⟩
  · cases h
theorem atI_some {α : Type} {xs : List α} {i : Int} {x : α} (h : atI xs i = some x) : ∃ j : Nat, ixN xs.length i = some j ∧ xs[j]? = some x := of_bind h
theorem sr_ix : SndR (rIxA K) ixD := by
  intro x y z h m v w G H s dx dy Q q
  unfold ixD at h
  split at h
  · obtain ⟨j, h1, h2⟩ := atI_some h
    cases dy
    cases dx with
    | lst e1 a1 =>
      obtain ⟨u, hu, du⟩ := a1.get h2
      refine .inl ⟨_, _, _, u, rfl, rfl, SqL.of (s.ex _ _ e1), ?_, q u G H (Grow.refl s) du⟩
      unfold atI
      rw [a1.len, h1]
      exact hu
  · obtain ⟨j, h1, h2⟩ := atI_some h
    cases dy
    cases dx with
    | tup e1 a1 =>
      obtain ⟨u, hu, du⟩ := a1.get h2
      refine .inr ⟨_, _, _, u, rfl, rfl, SqT.of (s.ex _ _ e1), ?_, q u G H (Grow.refl s) du⟩
      unfold atI
      rw [a1.len, h1]
      exact hu
  · cases h
end

/-! ### slices -/
def cutD (xs : List PyData) (lo hi : Option Int) : List PyData := (xs.drop (HT.sIx xs.length 0 lo)).take (HT.sIx xs.length xs.length hi - HT.sIx xs.length 0 lo)
def slD (x : PyData) (lo hi : Option Int) : Option PyData := match x with
  | .list xs => some (.list (cutD xs lo hi))
  | .tuple xs => some (.tuple (cutD xs lo hi))
  | _ => none
abbrev rSl (K : PySem.W.Frag) : V → Option Int → Option Int → Hp → VK → Prop := fun x lo hi H Q => rSlL K x lo hi H Q ∨ rSlA K x lo hi H Q
theorem sl_A {X : Cx} : SlR X (rSl X.K) := sl_list.or sl_tupA
theorem cut_up {G : Hp} {vs : List V} {ds : List PyData} (a : DdAll G vs ds) (lo hi : Option Int) : DdAll G (cutV vs lo hi) (cutD ds lo hi) := by
  unfold cutV cutD
  rw [a.len]
  exact (a.drop _).take _
def asI : PyData → Option Int
  | .int i => some i
  | _ => none
theorem asI_of {x : PyData} {i : Int} (h : asI x = some i) : x = .int i := by
  cases x <;> first | (cases h; rfl) | cases h
section
variable {X : Cx} {pos p2 : Pos} {e l h : Expr} {te tl th : TE} {p pl ph : PM} {f fl fh : FM} {K : PySem.W.Frag}
def fFrom (f fl : FM) : FM := fun ρ => (f ρ).bind fun x => ((fl ρ).bind asI).bind fun i => slD x (some i) none
def fTo (f fl : FM) : FM := fun ρ => (f ρ).bind fun x => ((fl ρ).bind asI).bind fun i => slD x none (some i)
def pFrom (p pl : PM) : PM := fun ρ Φ => p ρ fun x => pl ρ fun y => ∃ i z, y = .int i ∧ slD x (some i) none = some z ∧ Φ z
def pTo (p pl : PM) : PM := fun ρ Φ => p ρ fun x => pl ρ fun y => ∃ i z, y = .int i ∧ slD x none (some i) = some z ∧ Φ z
theorem sl_core {m : Option Addr} {G H : Hp} {v : V} {x z : PyData} {lo hi : Option Int} {Q : VK} (s : StOk m G H) (d : Dd G v x) (h : slD x lo hi = some z) (q : ∀ u G' H', Grow m G H G' H' → Dd G' u z → Q u H') : rSl K v lo hi H Q := by
  unfold slD at h
  split at h
  · cases h
    cases d with
    | lst e1 a1 =>
      refine .inl ⟨_, _, rfl, SqL.of (s.ex _ _ e1), fun p hp => ?_⟩
      exact q _ _ _ (Grow.new s hp) (.lst upd_same ((cut_up a1 lo hi).up (Grow.new s hp).g))
  · cases h
    cases d with
    | tup e1 a1 =>
      rename_i ds a vs
      refine .inr ⟨_, _, rfl, SqT.of (s.ex _ _ e1), fun hw => ?_, fun _ p hp => ?_⟩
      · refine q _ _ _ (Grow.refl s) ?_
        have ec : cutD ds lo hi = ds := by
          unfold cutD
          rw [← a1.len, hw.1, hw.2, List.drop_zero, Nat.sub_zero, a1.len, List.take_length]
        rw [ec]
        exact .tup e1 a1
      · exact q _ _ _ (Grow.new s hp) (.tup upd_same ((cut_up a1 lo hi).up (Grow.new s hp).g))
  · cases h
theorem snd_from (h1 : SndE te p) (h2 : SndE tl pl) : SndE (tSl (rSl K) te (tPart tl) tNoPart) (pFrom p pl) := by
  intro m ρ Φ hp σ G H s he Q k
  refine h1 m ρ _ hp σ G H s he _ fun x v G1 H1 a1 w1 d1 => ?_
  refine h2 m ρ _ a1 σ G1 H1 w1.st (he.up w1.g) _ fun y w G2 H2 ⟨i, z, ey, hz, hΦ⟩ w2 d2 => ?_
  subst ey
  cases d2
  exact ⟨i, rfl, sl_core w2.st (d1.up w2.g) hz fun u G3 H3 w3 d3 => k _ _ _ _ hΦ ((w1.trans w2).trans w3) d3⟩
theorem snd_to (h1 : SndE te p) (h2 : SndE tl pl) : SndE (tSl (rSl K) te tNoPart (tPart tl)) (pTo p pl) := by
  intro m ρ Φ hp σ G H s he Q k
  refine h1 m ρ _ hp σ G H s he _ fun x v G1 H1 a1 w1 d1 => ?_
  refine h2 m ρ _ a1 σ G1 H1 w1.st (he.up w1.g) _ fun y w G2 H2 ⟨i, z, ey, hz, hΦ⟩ w2 d2 => ?_
  subst ey
  cases d2
  exact ⟨i, rfl, sl_core w2.st (d1.up w2.g) hz fun u G3 H3 w3 d3 => k _ _ _ _ hΦ ((w1.trans w2).trans w3) d3⟩
theorem ffrom_imp (ρ : DEnv) (Φ : PyData → Prop) (h : lift (fFrom f fl) ρ Φ) : pFrom (lift f) (lift fl) ρ Φ := by
  obtain ⟨z, hz, hΦ⟩ := h
  obtain ⟨x, hx, hz⟩ := of_bind hz
  obtain ⟨i, hi, hz⟩ := of_bind hz
  obtain ⟨y, hy, hi⟩ := of_bind hi
  exact ⟨x, hx, y, hy, i, z, asI_of hi, hz, hΦ⟩
theorem fto_imp (ρ : DEnv) (Φ : PyData → Prop) (h : lift (fTo f fl) ρ Φ) : pTo (lift f) (lift fl) ρ Φ := by
  obtain ⟨z, hz, hΦ⟩ := h
  obtain ⟨x, hx, hz⟩ := of_bind hz
  obtain ⟨i, hi, hz⟩ := of_bind hz
  obtain ⟨y, hy, hi⟩ := of_bind hi
  exact ⟨x, hx, y, hy, i, z, asI_of hi, hz, hΦ⟩
theorem fe_from (h1 : FE X e te f) (h2 : FE X l tl fl) : FE X (.Subscript e (.Slice (some l) none none p2) pos) (tSl (rSl X.K) te (tPart tl) tNoPart) (fFrom f fl) :=
  ME.imp ⟨pe_slice sl_A h1.pe (po_some h2.pe) po_none, snd_from h1.snd h2.snd⟩ ffrom_imp
theorem me_to (h1 : ME X e te p) (h2 : ME X l tl pl) : ME X (.Subscript e (.Slice none (some l) none p2) pos) (tSl (rSl X.K) te tNoPart (tPart tl)) (pTo p pl) :=
  ⟨pe_slice sl_A h1.pe po_none (po_some h2.pe), snd_to h1.snd h2.snd⟩
end
end DL
/-! DL3: what a for walks, targets, comprehensions, statements over data. -/
namespace DL
open PySem L2
open Evl (Ex)

/-! ### what a for walks -/
structure WalkD (m : Option Addr) (J : It) (G : Hp) (ds : List PyData) : Prop where
  goes : ∀ (i : Nat) (G1 H1 : Hp), i < ds.length → Ex G G1 → StOk m G1 H1 → J.go i H1
  stops : ∀ (G1 H1 : Hp), Ex G G1 → StOk m G1 H1 → J.stop ds.length H1
  yields : ∀ (i : Nat) (d : PyData) (G1 H1 : Hp) (x : V) (H' : Hp), ds[i]? = some d → Ex G G1 → StOk m G1 H1 → J.yld i H1 x H' → ∃ G', Grow m G1 H1 G' H' ∧ Dd G' x d
def SndI (wi : TI) (p : PAa) : Prop := ∀ (m : Option Addr) (ρ : DEnv) (Φ : List PyData → Prop), p ρ Φ → ∀ (σ : St) (G H : Hp), StOk m G H → EnvOk m G σ ρ →
  ∀ R : It → Hp → Prop, (∀ ds J G' H', Φ ds → Grow m G H G' H' → WalkD m J G' ds → R J H') → wi σ H R
structure MI (X : Cx) (tg iter : Expr) (wi : TI) (p : PAa) : Prop where
  pi : PI X tg iter wi
  snd : SndI wi p
abbrev FI (X : Cx) (tg iter : Expr) (wi : TI) (f : FAa) : Prop := MI X tg iter wi (lift f)
theorem MI.imp {X : Cx} {tg iter : Expr} {wi : TI} {p p' : PAa} (h : MI X tg iter wi p) (i : ∀ ρ Φ, p' ρ Φ → p ρ Φ) : MI X tg iter wi p' := ⟨h.pi, fun m ρ Φ q => h.snd m ρ Φ (i ρ Φ q)⟩
def asL : PyData → Option (List PyData)
  | .list xs => some xs
  | _ => none
def asT : PyData → Option (List PyData)
  | .tuple xs => some xs
  | _ => none
theorem asL_of {x : PyData} {xs : List PyData} (h : asL x = some xs) : x = .list xs := by
  cases x <;> first | (cases h; rfl) | cases h
theorem asT_of {x : PyData} {xs : List PyData} (h : asT x = some xs) : x = .tuple xs := by
  cases x <;> first | (cases h; rfl) | cases h
def fItL (f : FM) : FAa := fun ρ => (f ρ).bind asL
def fItT (f : FM) : FAa := fun ρ => (f ρ).bind asT
def pItL (p : PM) : PAa := fun ρ Φ => p ρ fun x => ∃ xs, x = .list xs ∧ Φ xs
def pItT (p : PM) : PAa := fun ρ Φ => p ρ fun x => ∃ xs, x = .tuple xs ∧ Φ xs
def rangeD (a b : Int) : List PyData := (List.range (b - a).toNat).map fun k => .int (a + (k : Nat))
def rngOk (i : Int) : Prop := -(2 ^ 62) ≤ i ∧ i < 2 ^ 62
instance (i : Int) : Decidable (rngOk i) := inferInstanceAs (Decidable (_ ∧ _))
def fRg1 (f : FM) : FAa := fun ρ => ((f ρ).bind asI).bind fun i => if rngOk i then some (rangeD 0 i) else none
def fRg2 (f g : FM) : FAa := fun ρ => ((f ρ).bind asI).bind fun i => ((g ρ).bind asI).bind fun j => if rngOk i ∧ rngOk j then some (rangeD i j) else none
def pRg1 (p : PM) : PAa := fun ρ Φ => p ρ fun x => ∃ i, x = .int i ∧ rngOk i ∧ Φ (rangeD 0 i)
section
variable {m : Option Addr} {G H : Hp} {K : PySem.W.Frag} {a : Addr} {xs : List V} {ds : List PyData}
theorem walkD_list (e : G a = some (.lst xs)) (d : DdAll G xs ds) : WalkD m (Itl K a) G ds := by
  refine ⟨fun i G1 H1 hi g s => ?_, fun G1 H1 g s => ⟨xs, SqL.of (s.ex _ _ (g _ _ e)), by rw [d.len]; exact Nat.le_refl _⟩, fun i x G1 H1 v H' hx g s y => ?_⟩
  · obtain ⟨v, h1, _⟩ := d.get (List.getElem?_eq_getElem hi)
    exact ⟨xs, v, SqL.of (s.ex _ _ (g _ _ e)), h1⟩
  · obtain ⟨rfl, y⟩ := y
    obtain ⟨v', h1, h2⟩ := d.get hx
    have h3 := y xs (SqL.of (s.ex _ _ (g _ _ e)))
    rw [h1] at h3
    cases h3
    exact ⟨G1, Grow.refl s, h2.up g⟩
theorem walkD_tup (e : G a = some (.tup xs)) (d : DdAll G xs ds) : WalkD m (Itt K a) G ds := by
  refine ⟨fun i G1 H1 hi g s => ?_, fun G1 H1 g s => ⟨xs, SqT.of (s.ex _ _ (g _ _ e)), by rw [d.len]; exact Nat.le_refl _⟩, fun i x G1 H1 v H' hx g s y => ?_⟩
  · obtain ⟨v, h1, _⟩ := d.get (List.getElem?_eq_getElem hi)
    exact ⟨xs, v, SqT.of (s.ex _ _ (g _ _ e)), h1⟩
  · obtain ⟨rfl, y⟩ := y
    obtain ⟨v', h1, h2⟩ := d.get hx
    have h3 := y xs (SqT.of (s.ex _ _ (g _ _ e)))
    rw [h1] at h3
    cases h3
    exact ⟨G1, Grow.refl s, h2.up g⟩
theorem walkD_rng {lo hi : Int} : WalkD m (Itr lo (hi - lo).toNat) G (rangeD lo hi) := by
  have hl : (rangeD lo hi).length = (hi - lo).toNat := by unfold rangeD; rw [List.length_map, List.length_range]
  refine ⟨fun i G1 H1 hi g s => ?_, fun G1 H1 g s => ?_, fun i x G1 H1 v H' hx g s y => ?_⟩
  · rw [hl] at hi
    exact hi
  · rw [hl]
    exact Nat.le_refl _
  · obtain ⟨rfl, rfl⟩ := y
    unfold rangeD at hx
    have hlt : i < (hi - lo).toNat := by rw [← hl]; exact (List.getElem?_eq_some_iff.mp (show (rangeD lo hi)[i]? = some x from hx)).1
    rw [List.getElem?_map, List.getElem?_range hlt] at hx
    cases hx
    exact ⟨G1, Grow.refl s, .int _⟩
/-- pairs, each a new tuple -/
theorem walkD_zipT {b : Addr} {ys : List V} {es : List PyData} (e : G a = some (.tup xs)) (d : DdAll G xs ds) (e2 : G b = some (.tup ys)) (d2 : DdAll G ys es) :
    WalkD m (RZ.ItzT K a b) G ((ds.zip es).map fun p => .tuple [p.1, p.2]) := by
  have hl : ((ds.zip es).map fun p => PyData.tuple [p.1, p.2]).length = min ds.length es.length := by rw [List.length_map, List.length_zip]
  refine ⟨fun i G1 H1 hi g s => ?_, fun G1 H1 g s => ⟨xs, ys, SqT.of (s.ex _ _ (g _ _ e)), SqT.of (s.ex _ _ (g _ _ e2)), ?_⟩, fun i x G1 H1 v H' hx g s y => ?_⟩
  · rw [hl] at hi
    obtain ⟨v, h1, _⟩ := d.get (List.getElem?_eq_getElem (show i < ds.length by omega))
    obtain ⟨w, h2, _⟩ := d2.get (List.getElem?_eq_getElem (show i < es.length by omega))
    exact ⟨xs, ys, v, w, SqT.of (s.ex _ _ (g _ _ e)), SqT.of (s.ex _ _ (g _ _ e2)), h1, h2⟩
  · rw [hl, d.len, d2.len]
    omega
  · obtain ⟨T, v1, v2, rfl, hT, rfl, y1, y2⟩ := y
    rw [List.getElem?_map] at hx
    obtain ⟨p, hp, rfl⟩ := Option.map_eq_some_iff.mp hx
    obtain ⟨p1, p2⟩ := p
    obtain ⟨h1, h2⟩ := List.getElem?_zip_eq_some.mp hp
    obtain ⟨w1, k1, l1⟩ := d.get h1
    obtain ⟨w2, k2, l2⟩ := d2.get h2
    have z1 := y1 xs (SqT.of (s.ex _ _ (g _ _ e)))
    have z2 := y2 ys (SqT.of (s.ex _ _ (g _ _ e2)))
    rw [k1] at z1
    rw [k2] at z2
    cases z1
    cases z2
    exact ⟨_, Grow.new s hT, .tup upd_same (.cons ((l1.up g).up (Grow.new s hT).g) (.cons ((l2.up g).up (Grow.new s hT).g) .nil))⟩
end
section
variable {X : Cx} {tg e e2 : Expr} {te te2 : TE} {p : PM} {f g : FM} {pos pos2 : Pos}
theorem mi_list (h : ME X e te p) : MI X tg e (iList X.K te) (pItL p) := by
  refine ⟨pi_list h.pe, fun m ρ Φ hp σ G H s he R k => ?_⟩
  refine h.snd m ρ _ hp σ G H s he _ fun x v G1 H1 ⟨xs, ex, hΦ⟩ w1 d1 => ?_
  subst ex
  cases d1 with
  | lst e1 a1 => exact ⟨_, rfl, ⟨_, SqL.of (w1.st.ex _ _ e1)⟩, k _ _ _ _ hΦ w1 (walkD_list e1 a1)⟩
theorem mi_tup (h : ME X e te p) : MI X tg e (iTup X.K te) (pItT p) := by
  refine ⟨pi_tup h.pe, fun m ρ Φ hp σ G H s he R k => ?_⟩
  refine h.snd m ρ _ hp σ G H s he _ fun x v G1 H1 ⟨xs, ex, hΦ⟩ w1 d1 => ?_
  subst ex
  cases d1 with
  | tup e1 a1 => exact ⟨_, rfl, ⟨_, SqT.of (w1.st.ex _ _ e1)⟩, k _ _ _ _ hΦ w1 (walkD_tup e1 a1)⟩
theorem fi_list (h : FE X e te f) : FI X tg e (iList X.K te) (fItL f) := (mi_list h).imp fun ρ Φ ⟨z, hz, hΦ⟩ => by
  obtain ⟨x, hx, hz⟩ := of_bind hz
  exact ⟨x, hx, z, asL_of hz, hΦ⟩
theorem fi_tup (h : FE X e te f) : FI X tg e (iTup X.K te) (fItT f) := (mi_tup h).imp fun ρ Φ ⟨z, hz, hΦ⟩ => by
  obtain ⟨x, hx, hz⟩ := of_bind hz
  exact ⟨x, hx, z, asT_of hz, hΦ⟩
theorem mi_rg1 (hg : Gl X "range") (hm : X.mg "range" = none) (h : ME X e te p) (hs : starEach [e] X.env = (false, eval e X.env) :: starEach [] X.env := by rfl) (hs0 : starEach [] X.env = [] := by rfl) : MI X tg (.Call (.Name "range" pos) [e] [] pos2) (iRng1 (tCons te tNil)) (pRg1 p) := by
  refine ⟨pi_range1 hg hm (pa_cons h.pe pa_nil hs) (by rw [hs, hs0]), fun m ρ Φ hp σ G H s he R k => ?_⟩
  refine h.snd m ρ _ hp σ G H s he _ fun x v G1 H1 ⟨i, ex, hi, hΦ⟩ w1 d1 => ?_
  subst ex
  cases d1
  refine ⟨i, rfl, hi.1, hi.2, k _ _ _ _ hΦ w1 ?_⟩
  have h := walkD_rng (m := m) (G := G1) (lo := 0) (hi := i)
  rw [Int.sub_zero] at h
  exact h
theorem fi_rg1 (hg : Gl X "range") (hm : X.mg "range" = none) (h : FE X e te f) (hs : starEach [e] X.env = (false, eval e X.env) :: starEach [] X.env := by rfl) (hs0 : starEach [] X.env = [] := by rfl) : FI X tg (.Call (.Name "range" pos) [e] [] pos2) (iRng1 (tCons te tNil)) (fRg1 f) :=
  (mi_rg1 hg hm h hs hs0).imp fun ρ Φ ⟨z, hz, hΦ⟩ => by
    obtain ⟨i, hi, hz⟩ := of_bind hz
    obtain ⟨x, hx, hi⟩ := of_bind hi
    split at hz
    · rename_i hc
      cases hz
      exact ⟨x, hx, i, asI_of hi, hc, hΦ⟩
    · cases hz
theorem fi_rg2 (hg : Gl X "range") (hm : X.mg "range" = none) (h : FE X e te f) (h2 : FE X e2 te2 g) (hs0 : starEach [] X.env = [] := by rfl) (hs2 : starEach [e2] X.env = (false, eval e2 X.env) :: starEach [] X.env := by rfl)
    (hs3 : starEach (e :: [e2]) X.env = (false, eval e X.env) :: starEach [e2] X.env := by rfl) :
    FI X tg (.Call (.Name "range" pos) [e, e2] [] pos2) (iRng2 (tCons te (tCons te2 tNil))) (fRg2 f g) := by
  refine ⟨pi_range2 hg hm (pa_cons h.pe (pa_cons h2.pe pa_nil hs2) hs3) (by rw [hs3, hs2, hs0]) (by rw [hs2, hs0]), fun m ρ Φ hp σ G H s he R k => ?_⟩
  obtain ⟨z, hz, hΦ⟩ := hp
  obtain ⟨i, hi, hz⟩ := of_bind hz
  obtain ⟨x, hx, hi⟩ := of_bind hi
  obtain ⟨j, hj, hz⟩ := of_bind hz
  obtain ⟨y, hy, hj⟩ := of_bind hj
  split at hz
  · rename_i hc
    cases hz
    refine h.snd m ρ (fun t => t = x) ⟨x, hx, rfl⟩ σ G H s he _ fun x' v G1 H1 ex w1 d1 => ?_
    refine h2.snd m ρ (fun t => t = y) ⟨y, hy, rfl⟩ σ G1 H1 w1.st (he.up w1.g) _ fun y' w G2 H2 ey w2 d2 => ?_
    rw [ex, asI_of hi] at d1
    rw [ey, asI_of hj] at d2
    cases d1
    cases d2
    exact ⟨i, j, rfl, ⟨hc.1.1, hc.1.2, hc.2.1, hc.2.2⟩, k _ _ _ _ hΦ (w1.trans w2) walkD_rng⟩
  · cases hz
def fZip (f g : FM) : FAa := fun ρ => ((f ρ).bind asT).bind fun xs => ((g ρ).bind asT).map fun ys => (xs.zip ys).map fun p => .tuple [p.1, p.2]
theorem fi_zip {elts : List Expr} {kk : Nat} {tpos : Pos} (hg : Gl X "zip") (hm : X.mg "zip" = none) (h : FE X e te f) (h2 : FE X e2 te2 g) (hs : starEach [e, e2] X.env = (false, eval e X.env) :: starEach [e2] X.env := by rfl)
    (hpl : (backTo pos2 (starEach [e2] X.env)).any (·.1) = false := by rfl) (hs2 : starEach [e2] X.env = (false, eval e2 X.env) :: starEach [] X.env := by rfl) :
    FI X (.Tuple elts kk tpos) (.Call (.Name "zip" pos) [e, e2] [] pos2) (RZ.iZipA X.K (tCons te (tCons te2 tNil))) (fZip f g) := by
  refine ⟨RZ.pi_zipA hg hm (pa_cons h.pe (pa_cons h2.pe pa_nil hs2) hs) hs hpl, fun m ρ Φ hp σ G H s he R k => ?_⟩
  obtain ⟨z, hz, hΦ⟩ := hp
  obtain ⟨xs, hxs, hz⟩ := of_bind hz
  obtain ⟨x, hx, hxs⟩ := of_bind hxs
  obtain ⟨ys, hys, e⟩ := Option.map_eq_some_iff.mp hz
  obtain ⟨y, hy, hys⟩ := of_bind hys
  subst e
  refine h.snd m ρ (fun t => t = x) ⟨x, hx, rfl⟩ σ G H s he _ fun x' v G1 H1 ex w1 d1 => ?_
  refine h2.snd m ρ (fun t => t = y) ⟨y, hy, rfl⟩ σ G1 H1 w1.st (he.up w1.g) _ fun y' w G2 H2 ey w2 d2 => ?_
  rw [ex, asT_of hxs] at d1
  rw [ey, asT_of hys] at d2
  cases d1 with
  | tup e1 a1 =>
    cases d2 with
    | tup e2' a2 =>
      have e1' := w2.g _ _ e1
      exact ⟨_, _, _, _, rfl, .inr ⟨SqT.of (w2.st.ex _ _ e1'), SqT.of (w2.st.ex _ _ e2'), k _ _ _ _ hΦ (w1.trans w2) (walkD_zipT e1' (a1.up w2.g) e2' a2)⟩⟩
end

/-! ### targets -/
abbrev PGd := PyData → DEnv → Option DEnv
abbrev PGds := List PyData → DEnv → Option DEnv
def SndG (g : TG) (pg : PGd) (ts : List Nat) : Prop := ∀ (m : Option Addr) (d : PyData) (ρ ρ' : DEnv), pg d ρ = some ρ' → ∀ (v : V) (σ : St) (G H : Hp), StOk m G H → EnvOk m G σ ρ → Dd G v d →
  ∀ Q : St → Hp → Prop, (∀ σ', EnvOk m G σ' ρ' → (∀ vs, (∀ i ∈ ts, i ∈ vs) → wipe σ' vs = wipe σ vs) → Q σ' H) → g v σ H Q
def SndGs (g : TGs) (pg : PGds) (ts : List Nat) : Prop := ∀ (m : Option Addr) (ds : List PyData) (ρ ρ' : DEnv), pg ds ρ = some ρ' → ∀ (xs : List V) (σ : St) (G H : Hp), StOk m G H → EnvOk m G σ ρ → DdAll G xs ds →
  ∀ Q : St → Hp → Prop, (∀ σ', EnvOk m G σ' ρ' → (∀ vs, (∀ i ∈ ts, i ∈ vs) → wipe σ' vs = wipe σ vs) → Q σ' H) → g xs σ H Q
structure MG (X : Cx) (tg : Expr) (g : TG) (pg : PGd) (ts : List Nat) : Prop where
  tp : PG X tg g
  snd : SndG g pg ts
structure MGs (X : Cx) (tgs : List Expr) (g : TGs) (pg : PGds) (ts : List Nat) : Prop where
  tp : PGs X tgs g
  snd : SndGs g pg ts
theorem wipe_at {σ : St} {j : Nat} : ∀ {vs : List Nat}, j ∈ vs → (wipe σ vs)[j]? = if j < σ.length then some none else none
  | v :: vs, h => by
    unfold wipe
    by_cases hv : v = j
    · subst hv
      by_cases hl : v < σ.length
      · rw [List.getElem?_set_self (by rw [wipe_length]; exact hl), if_pos hl]
      · rw [List.getElem?_eq_none (by rw [List.length_set, wipe_length]; omega), if_neg hl]
    · rw [List.getElem?_set_ne hv]
      exact wipe_at (by
        rcases List.mem_cons.mp h with e | e
        · exact absurd e.symm hv
        · exact e)
theorem wipe_set {σ : St} {i : Nat} {x : Option V} {vs : List Nat} (h : i ∈ vs) : wipe (σ.set i x) vs = wipe σ vs := by
  apply List.ext_getElem?
  intro j
  by_cases hj : j ∈ vs
  · rw [wipe_at hj, wipe_at hj, List.length_set]
  · rw [wipe_out hj, wipe_out hj, List.getElem?_set_ne (fun e => hj (by rw [← e]; exact h))]
theorem wipe_wipe {σ : St} {vs : List Nat} : wipe (wipe σ vs) vs = wipe σ vs := by
  apply List.ext_getElem?
  intro j
  by_cases hj : j ∈ vs
  · rw [wipe_at hj, wipe_at hj, wipe_length]
  · rw [wipe_out hj]
def pgName (i : Nat) : PGd := fun d ρ => some (ρ.set i (some (.d d)))
def pgTup (q : PGds) : PGd := fun d ρ => (asT d).bind fun xs => q xs ρ
def pgNil : PGds := fun ds ρ => match ds with
  | [] => some ρ
  | _ :: _ => none
def pgCons (p : PGd) (q : PGds) : PGds := fun ds ρ => match ds with
  | [] => none
  | d :: r => (p d ρ).bind fun ρ' => q r ρ'
section
variable {X : Cx} {pos : Pos}
theorem mg_name {i : Nat} {x : Str} (h : PG X (.Name x pos) (gName i)) : MG X (.Name x pos) (gName i) (pgName i) [i] := by
  refine ⟨h, fun m d ρ ρ' e v σ G H s he dv Q q => ?_⟩
  cases e
  exact q _ (he.set dv) fun vs hv => wipe_set (hv i (by simp))
theorem mgs_nil : MGs X [] gNil pgNil [] := by
  refine ⟨pgs_nil, fun m ds ρ ρ' e xs σ G H s he dv Q q => ?_⟩
  cases dv with
  | nil => cases e; exact ⟨rfl, q σ he fun _ _ => rfl⟩
  | cons _ _ => cases e
theorem mgs_cons {e : Expr} {es : List Expr} {g : TG} {gs : TGs} {p : PGd} {ps : PGds} {ts us : List Nat} (h1 : MG X e g p ts) (h2 : MGs X es gs ps us) (h : PGs X (e :: es) (gCons g gs)) : MGs X (e :: es) (gCons g gs) (pgCons p ps) (ts ++ us) := by
  refine ⟨h, fun m ds ρ ρ' e xs σ G H s he dv Q q => ?_⟩
  cases dv with
  | nil => cases e
  | cons d1 d2 =>
    obtain ⟨ρ1, e1, e2⟩ := of_bind e
    refine ⟨_, _, rfl, h1.snd m _ ρ ρ1 e1 _ σ G H s he d1 _ fun σ1 he1 w1 => ?_⟩
    refine h2.snd m _ ρ1 ρ' e2 _ σ1 G H s he1 d2 _ fun σ2 he2 w2 => q σ2 he2 fun vs hv => ?_
    rw [w2 vs fun i hi => hv i (List.mem_append_right _ hi), w1 vs fun i hi => hv i (List.mem_append_left _ hi)]
theorem mg_tup {es : List Expr} {k n : Nat} {gs : TGs} {ps : PGds} {ts : List Nat} (h : MGs X es gs ps ts) (hp : PG X (.Tuple es k pos) (gTup X.K n gs)) (hn : ∀ ds ρ ρ', ps ds ρ = some ρ' → ds.length = n) : MG X (.Tuple es k pos) (gTup X.K n gs) (pgTup ps) ts := by
  refine ⟨hp, fun m d ρ ρ' e v σ G H s he dv Q q => ?_⟩
  obtain ⟨xs, hx, e⟩ := of_bind e
  rw [asT_of hx] at dv
  cases dv with
  | tup e1 a1 => exact ⟨_, _, rfl, SqT.of (s.ex _ _ e1), by rw [a1.len]; exact hn _ _ _ e, h.snd m _ ρ ρ' e _ σ G H s he a1 Q q⟩
end
def NLen (ps : PGds) (n : Nat) : Prop := ∀ ds ρ ρ', ps ds ρ = some ρ' → ds.length = n
theorem nlen_nil : NLen pgNil 0 := fun ds ρ ρ' e => by
  cases ds with
  | nil => rfl
  | cons _ _ => cases e
theorem nlen_cons {p : PGd} {ps : PGds} {n : Nat} (h : NLen ps n) : NLen (pgCons p ps) (n + 1) := fun ds ρ ρ' e => by
  cases ds with
  | nil => cases e
  | cons d r =>
    obtain ⟨ρ1, _, e2⟩ := of_bind e
    rw [List.length_cons, h _ _ _ e2]

/-! ### comprehensions -/
def lcP (pg : PGd) (tt : PTt) (te : PM) (vs : List Nat) : List PyData → DEnv → List PyData → (List PyData → Prop) → Prop
  | [], _, acc, Φ => Φ acc
  | d :: ds, ρ, acc, Φ => ∃ ρ', pg d (wipeD ρ vs) = some ρ' ∧ tt ρ' fun b => if b = true then te ρ' fun y => lcP pg tt te vs ds ρ (acc ++ [y]) Φ else lcP pg tt te vs ds ρ acc Φ
def lcF (pg : PGd) (tt : FTt) (te : FM) (vs : List Nat) : List PyData → DEnv → Option (List PyData)
  | [], _ => some []
  | d :: ds, ρ => (pg d (wipeD ρ vs)).bind fun ρ' => (tt ρ').bind fun b => if b = true then (te ρ').bind fun y => (lcF pg tt te vs ds ρ).map fun ys => y :: ys else lcF pg tt te vs ds ρ
def pLc (pi : PAa) (pg : PGd) (tt : PTt) (te : PM) (vs : List Nat) : PM := fun ρ Φ => pi ρ fun ds => ds.length ≤ cap ∧ lcP pg tt te vs ds ρ [] fun ys => Φ (.list ys)
def fLc (fi : FAa) (pg : PGd) (tt : FTt) (te : FM) (vs : List Nat) : FM := fun ρ => (fi ρ).bind fun ds => if ds.length ≤ cap then (lcF pg tt te vs ds ρ).map fun ys => .list ys else none
theorem lc_imp {pg : PGd} {tt : FTt} {te : FM} {vs : List Nat} {ρ : DEnv} {Φ : List PyData → Prop} : ∀ {ds acc ys : List PyData}, lcF pg tt te vs ds ρ = some ys → Φ (acc ++ ys) → lcP pg (lift tt) (lift te) vs ds ρ acc Φ
  | [], acc, ys, h, q => by
    cases h
    rw [List.append_nil] at q
    exact q
  | d :: ds, acc, ys, h, q => by
    obtain ⟨ρ', h1, h⟩ := of_bind h
    obtain ⟨b, h2, h⟩ := of_bind h
    refine ⟨ρ', h1, b, h2, ?_⟩
    cases b with
    | true =>
      obtain ⟨y, h3, h⟩ := of_bind h
      obtain ⟨zs, h4, e⟩ := Option.map_eq_some_iff.mp h
      subst e
      refine ⟨y, h3, lc_imp h4 ?_⟩
      rw [List.append_assoc]
      exact q
    | false => exact lc_imp h q
theorem flc_imp {fi : FAa} {pg : PGd} {tt : FTt} {te : FM} {vs : List Nat} (ρ : DEnv) (Φ : PyData → Prop) (h : lift (fLc fi pg tt te vs) ρ Φ) : pLc (lift fi) pg (lift tt) (lift te) vs ρ Φ := by
  obtain ⟨z, hz, hΦ⟩ := h
  obtain ⟨ds, hd, hz⟩ := of_bind hz
  refine ⟨ds, hd, ?_⟩
  split at hz
  · rename_i hc
    obtain ⟨ys, hy, e⟩ := Option.map_eq_some_iff.mp hz
    subst e
    exact ⟨hc, lc_imp hy (by rw [List.nil_append]; exact hΦ)⟩
  · cases hz
/-- the new list at D is made known -/
theorem Grow.told {m : Option Addr} {G H Gc Hc : Hp} {D : Addr} {o : HO} (w : Grow m G H Gc Hc) (hD : H D = none) (hm : m ≠ some D) (hc : Hc D = some o) (hg : Gc D = none) : Grow m G H (upd Gc D o) Hc := by
  refine ⟨w.g.trans (Evl.Ex.new hg), w.h, ⟨fun a u e => ?_, fun c e => ?_⟩, fun a u e => ?_⟩
  · by_cases h : a = D
    · subst h
      rw [upd_same] at e
      rw [← e]
      exact hc
    · rw [upd_ne h] at e
      exact w.st.ex a u e
  · obtain ⟨h1, h2⟩ := w.st.cup c e
    exact ⟨by rw [upd_ne (fun z => hm (by rw [← z]; exact e))]; exact h1, h2⟩
  · by_cases h : a = D
    · subst h
      exact .inr (.inl hD)
    · rw [upd_ne h] at e
      exact w.fr a u e
/-- an unknown object that was new is written -/
theorem Grow.putN {m : Option Addr} {G H Gc Hc : Hp} {D : Addr} {o : HO} (w : Grow m G H Gc Hc) (hD : H D = none) (hm : m ≠ some D) (hg : Gc D = none) : Grow m G H Gc (upd Hc D o) :=
  ⟨w.g, fun a u e n => by rw [upd_ne (ne_of_none e hD)]; exact w.h a u e n, w.st.put hg hm, w.fr⟩
theorem drop_cons_of {α : Type} {ds : List α} {i : Nat} {d : α} (h : ds[i]? = some d) : ds.drop i = d :: ds.drop (i + 1) := by
  obtain ⟨hi, e⟩ := List.getElem?_eq_some_iff.mp h
  rw [List.drop_eq_getElem_cons hi, e]
theorem snd_lc {wi : TI} {g : TG} {tt : TT} {te : TE} {pi : PAa} {pg : PGd} {pt : PTt} {pe : PM} {ts vs : List Nat} (hi : SndI wi pi) (hg : SndG g pg ts) (hv : ∀ i ∈ ts, i ∈ vs) (ht : SndT tt pt) (he : SndE te pe) : SndE (tLc wi g tt te vs) (pLc pi pg pt pe vs) := by
  intro m ρ Φ hp σ G H s hE Q q
  refine hi m ρ _ hp σ G H s hE _ fun ds J G1 H1 ⟨hl, h1⟩ w1 wk D hD => ?_
  have hmD : m ≠ some D := w1.st.nom hD
  have hgD : G1 D = none := w1.st.nog hD
  refine ⟨fun i n Hc => n = ds.length - i ∧ i ≤ ds.length ∧ ∃ Gc acc vacc, Grow m G1 H1 Gc Hc ∧ Hc D = some (.lst vacc) ∧ Gc D = none ∧ DdAll Gc vacc acc ∧ acc.length ≤ i ∧ lcP pg pt pe vs (ds.drop i) ρ acc (fun ys => Φ (.list ys)),
    ⟨ds.length, rfl, Nat.zero_le _, G1, [], [], Grow.hid w1.st hD, upd_same, hgD, .nil, Nat.le_refl _, h1⟩, ?_⟩
  rintro i n Hc ⟨rfl, hle, Gc, acc, vacc, w2, hDc, hgc, da, hal, hlc⟩
  by_cases hlt : i < ds.length
  · have hds : ds[i]? = some ds[i] := List.getElem?_eq_getElem hlt
    refine .inr ⟨wk.goes i Gc Hc hlt w2.g w2.st, fun Hn => (ds.length - (i + 1)) = ds.length - (i + 1) ∧ i + 1 ≤ ds.length ∧ ∃ Gc acc vacc, Grow m G1 H1 Gc Hn ∧ Hn D = some (.lst vacc) ∧ Gc D = none ∧ DdAll Gc vacc acc ∧ acc.length ≤ i + 1 ∧ lcP pg pt pe vs (ds.drop (i + 1)) ρ acc (fun ys => Φ (.list ys)),
      fun Hn hn => ⟨ds.length - (i + 1), by omega, hn⟩, fun x H' y => ?_⟩
    obtain ⟨G3, w3, d3⟩ := wk.yields i _ Gc Hc x H' hds w2.g w2.st y
    rw [drop_cons_of hds] at hlc
    obtain ⟨ρ', hpg, hlc⟩ := hlc
    have hE3 : EnvOk m G3 (wipe σ vs) (wipeD ρ vs) := ((hE.up w1.g).up (w2.g.trans w3.g)).wipe vs
    refine hg m _ _ ρ' hpg x _ G3 H' w3.st hE3 d3 _ fun σ' hE' hw => ⟨by rw [hw vs hv, wipe_wipe], ?_⟩
    refine ht m ρ' _ hlc σ' G3 H' w3.st hE' _ fun b G4 H4 hb w4 => ?_
    have w34 := w3.trans w4
    have g4 : G4 D = none := w34.nog hDc hgc
    have h4 : H4 D = some (.lst vacc) := w34.h D _ hDc hmD
    cases b with
    | false => exact ⟨rfl, hlt, G4, acc, vacc, w2.trans w34, h4, g4, da.up w34.g, Nat.le_succ_of_le hal, hb⟩
    | true =>
      refine he m ρ' _ hb σ' G4 H4 w4.st (hE'.up w4.g) _ fun y v G5 H5 hy w5 d5 => ?_
      have w35 := w34.trans w5
      have g5 : G5 D = none := w35.nog hDc hgc
      refine ⟨vacc, w35.h D _ hDc hmD, ?_, rfl, hlt, G5, acc ++ [y], vacc ++ [v], (w2.trans w35).putN hD hmD g5, upd_same, g5, (da.up w35.g).app (.one d5), by rw [List.length_append, List.length_singleton]; omega, hy⟩
      rw [da.len]
      exact Nat.lt_of_le_of_lt (Nat.le_trans hal (Nat.le_trans hle hl)) (by decide)
  · have e : i = ds.length := by omega
    subst e
    rw [List.drop_length] at hlc
    refine .inl ⟨wk.stops Gc Hc w2.g w2.st, q _ _ _ _ hlc (w1.trans (w2.told hD hmD hDc hgc)) (.lst upd_same (da.up (Evl.Ex.new hgc)))⟩
end DL
/-! DL4: statements over data; defs, their promises, calls. -/
namespace DL
open PySem L2
open Evl (Ex)

inductive Out where
  | nx (ρ : DEnv)
  | rt (x : PyData)
  | bk (ρ : DEnv)
  | ct (ρ : DEnv)
abbrev PSt := DEnv → (Out → Prop) → Prop
abbrev FSt := DEnv → Option Out
structure EndsOk (m : Option Addr) (G H : Hp) (D : Ends) (Φ : Out → Prop) : Prop where
  nx : ∀ ρ σ G' H', Φ (.nx ρ) → Grow m G H G' H' → EnvOk m G' σ ρ → D.nx σ H'
  rt : ∀ x v G' H', Φ (.rt x) → Grow m G H G' H' → Dd G' v x → D.rt v H'
  bk : ∀ ρ σ G' H', Φ (.bk ρ) → Grow m G H G' H' → EnvOk m G' σ ρ → D.bk σ H'
  ct : ∀ ρ σ G' H', Φ (.ct ρ) → Grow m G H G' H' → EnvOk m G' σ ρ → D.ct σ H'
theorem EndsOk.later {m : Option Addr} {G H G1 H1 : Hp} {D : Ends} {Φ Ψ : Out → Prop} (e : EndsOk m G H D Φ) (w : Grow m G H G1 H1) (i : ∀ o, Ψ o → Φ o) : EndsOk m G1 H1 D Ψ :=
  ⟨fun ρ σ G' H' h w' => e.nx ρ σ G' H' (i _ h) (w.trans w'), fun x v G' H' h w' => e.rt x v G' H' (i _ h) (w.trans w'), fun ρ σ G' H' h w' => e.bk ρ σ G' H' (i _ h) (w.trans w'), fun ρ σ G' H' h w' => e.ct ρ σ G' H' (i _ h) (w.trans w')⟩
def SndS (ts : TS) (p : PSt) : Prop := ∀ (m : Option Addr) (ρ : DEnv) (Φ : Out → Prop), p ρ Φ → ∀ (σ : St) (G H : Hp), StOk m G H → EnvOk m G σ ρ → ∀ D : Ends, EndsOk m G H D Φ → ts D σ H
structure MS (X : Cx) (st : Stmt) (ts : TS) (p : PSt) : Prop where
  ps : PS X st ts
  snd : SndS ts p
structure MSs (X : Cx) (sts : List Stmt) (ts : TS) (p : PSt) : Prop where
  ps : PSs X sts ts
  snd : SndS ts p
abbrev FS (X : Cx) (st : Stmt) (ts : TS) (f : FSt) : Prop := MS X st ts (lift f)
abbrev FSs (X : Cx) (sts : List Stmt) (ts : TS) (f : FSt) : Prop := MSs X sts ts (lift f)
theorem MS.imp {X : Cx} {st : Stmt} {ts : TS} {p p' : PSt} (h : MS X st ts p) (i : ∀ ρ Φ, p' ρ Φ → p ρ Φ) : MS X st ts p' := ⟨h.ps, fun m ρ Φ q => h.snd m ρ Φ (i ρ Φ q)⟩
theorem MSs.imp {X : Cx} {st : List Stmt} {ts : TS} {p p' : PSt} (h : MSs X st ts p) (i : ∀ ρ Φ, p' ρ Φ → p ρ Φ) : MSs X st ts p' := ⟨h.ps, fun m ρ Φ q => h.snd m ρ Φ (i ρ Φ q)⟩

def pNext : PSt := fun ρ Φ => Φ (.nx ρ)
def fNext : FSt := fun ρ => some (.nx ρ)
def pSeq (p q : PSt) : PSt := fun ρ Φ => p ρ fun o => match o with
  | .nx ρ' => q ρ' Φ
  | o => Φ o
def fSeq (f g : FSt) : FSt := fun ρ => (f ρ).bind fun o => match o with
  | .nx ρ' => g ρ'
  | o => some o
def pAsg (pe : PM) (pg : PGd) : PSt := fun ρ Φ => pe ρ fun x => ∃ ρ', pg x ρ = some ρ' ∧ Φ (.nx ρ')
def fAsg (fe : FM) (pg : PGd) : FSt := fun ρ => (fe ρ).bind fun x => (pg x ρ).map .nx
def pIfS (pt : PTt) (p q : PSt) : PSt := fun ρ Φ => pt ρ fun b => if b = true then p ρ Φ else q ρ Φ
def fIfS (ft : FTt) (f g : FSt) : FSt := fun ρ => (ft ρ).bind fun b => if b = true then f ρ else g ρ
def pRet (pe : PM) : PSt := fun ρ Φ => pe ρ fun x => Φ (.rt x)
def fRet (fe : FM) : FSt := fun ρ => (fe ρ).map .rt
def pDrop (pe : PM) : PSt := fun ρ Φ => pe ρ fun _ => Φ (.nx ρ)
def fDrop (fe : FM) : FSt := fun ρ => (fe ρ).map fun _ => .nx ρ
def pNever : PSt := fun _ _ => False
def fNever : FSt := fun _ => none
def pPar (i j : Nat) (pa : PAa) : PSt := fun ρ Φ => pa ρ fun xs => ∃ x y, xs = [x, y] ∧ Φ (.nx ((ρ.set i (some (.d x))).set j (some (.d y))))
def fPar (i j : Nat) (fa : FAa) : FSt := fun ρ => (fa ρ).bind fun xs => match xs with
  | [x, y] => some (.nx ((ρ.set i (some (.d x))).set j (some (.d y))))
  | _ => none
def fPar3 (i j l : Nat) (fa : FAa) : FSt := fun ρ => (fa ρ).bind fun xs => match xs with
  | [x, y, z] => some (.nx (((ρ.set i (some (.d x))).set j (some (.d y))).set l (some (.d z))))
  | _ => none
def forP (pg : PGd) (body : PSt) : List PyData → DEnv → (Out → Prop) → Prop
  | [], ρ, Φ => Φ (.nx ρ)
  | d :: ds, ρ, Φ => ∃ ρ', pg d ρ = some ρ' ∧ body ρ' fun o => match o with
    | .nx ρ2 => forP pg body ds ρ2 Φ
    | .ct ρ2 => forP pg body ds ρ2 Φ
    | .bk ρ2 => Φ (.nx ρ2)
    | .rt x => Φ (.rt x)
def forF (pg : PGd) (body : FSt) : List PyData → DEnv → Option Out
  | [], ρ => some (.nx ρ)
  | d :: ds, ρ => (pg d ρ).bind fun ρ' => (body ρ').bind fun o => match o with
    | .nx ρ2 => forF pg body ds ρ2
    | .ct ρ2 => forF pg body ds ρ2
    | .bk ρ2 => some (.nx ρ2)
    | .rt x => some (.rt x)
def pFor (pi : PAa) (pg : PGd) (body : PSt) : PSt := fun ρ Φ => pi ρ fun ds => forP pg body ds ρ Φ
def fFor (fi : FAa) (pg : PGd) (body : FSt) : FSt := fun ρ => (fi ρ).bind fun ds => forF pg body ds ρ
def whileF (ft : FTt) (body : FSt) : Nat → DEnv → Option Out
  | 0, _ => none
  | n + 1, ρ => (ft ρ).bind fun b => if b = true then (body ρ).bind fun o => match o with
    | .nx ρ2 => whileF ft body n ρ2
    | .ct ρ2 => whileF ft body n ρ2
    | .bk ρ2 => some (.nx ρ2)
    | .rt x => some (.rt x)
    else some (.nx ρ)
/-- a loop that ends within some number of turns -/
def pWhile (ft : FTt) (body : FSt) : PSt := fun ρ Φ => ∃ n o, whileF ft body n ρ = some o ∧ Φ o

section
variable {X : Cx} {pos : Pos} {e tg iter : Expr} {te : TE} {pe : PM} {fe : FM} {g : TG} {pg : PGd} {tl : List Nat} {st : Stmt} {sts : List Stmt} {t u : TS} {p q : PSt} {f h : FSt} {tc : TT} {pt : PTt} {ft : FTt} {wi : TI} {pi : PAa} {fi : FAa}
theorem snd_next : SndS tNext pNext := fun m ρ Φ h σ G H s he D ok => ok.nx ρ σ G H h (Grow.refl s) he
theorem snd_seq (h1 : SndS t p) (h2 : SndS u q) : SndS (tSeq t u) (pSeq p q) := fun m ρ Φ h σ G H s he D ok =>
  h1 m ρ _ h σ G H s he _ ⟨fun ρ' σ' G' H' k w he' => h2 m ρ' Φ k σ' G' H' w.st he' D (ok.later w fun _ z => z), fun x v G' H' k w d => ok.rt x v G' H' k w d, fun ρ' σ' G' H' k w he' => ok.bk ρ' σ' G' H' k w he', fun ρ' σ' G' H' k w he' => ok.ct ρ' σ' G' H' k w he'⟩
theorem snd_asg (h1 : SndE te pe) (h2 : SndG g pg tl) : SndS (tAsg te g) (pAsg pe pg) := fun m ρ Φ h σ G H s he D ok =>
  h1 m ρ _ h σ G H s he _ fun x v G1 H1 ⟨ρ', e, k⟩ w d => h2 m x ρ ρ' e v σ G1 H1 w.st (he.up w.g) d _ fun σ' he' _ => ok.nx ρ' σ' G1 H1 k w he'
theorem snd_ifS (h0 : SndT tc pt) (h1 : SndS t p) (h2 : SndS u q) : SndS (tIfS tc t u) (pIfS pt p q) := fun m ρ Φ h σ G H s he D ok =>
  h0 m ρ _ h σ G H s he _ fun b G1 H1 k w => by
    cases b with
    | true => exact h1 m ρ Φ k σ G1 H1 w.st (he.up w.g) D (ok.later w fun _ z => z)
    | false => exact h2 m ρ Φ k σ G1 H1 w.st (he.up w.g) D (ok.later w fun _ z => z)
theorem snd_ret (h1 : SndE te pe) : SndS (tRet te) (pRet pe) := fun m ρ Φ h σ G H s he D ok => h1 m ρ _ h σ G H s he _ fun x v G1 H1 k w d => ok.rt x v G1 H1 k w d
theorem snd_drop (h1 : SndE te pe) : SndS (tDrop te) (pDrop pe) := fun m ρ Φ h σ G H s he D ok => h1 m ρ _ h σ G H s he _ fun x v G1 H1 k w d => ok.nx ρ σ G1 H1 k w (he.up w.g)
theorem snd_never : SndS tNever pNever := fun m ρ Φ h => h.elim
theorem snd_par {ta : TA} {pa : PAa} {n i j : Nat} (h1 : SndA ta pa n) : SndS (tPar i j ta) (pPar i j pa) := fun m ρ Φ h σ G H s he D ok =>
  h1 m ρ _ h σ G H s he _ fun xs vs G1 H1 ⟨x, y, e, k⟩ _ w d => by
    subst e
    cases d with
    | cons d1 d2 =>
      cases d2 with
      | cons d2 d3 =>
        cases d3
        exact ⟨_, _, rfl, ok.nx _ _ G1 H1 k w (((he.up w.g).set (s := .d _) d1).set (s := .d _) d2)⟩
theorem snd_par3 {ta : TA} {fa : FAa} {n i j l : Nat} (h1 : SndA ta (lift fa) n) : SndS (tPar3 i j l ta) (lift (fPar3 i j l fa)) := fun m ρ Φ h σ G H s he D ok => by
  obtain ⟨o, ho, hΦ⟩ := h
  obtain ⟨xs, hxs, ho⟩ := of_bind ho
  refine h1 m ρ (fun z => z = xs) ⟨xs, hxs, rfl⟩ σ G H s he _ fun xs' vs G1 H1 ex _ w d => ?_
  subst ex
  split at ho
  · cases ho
    cases d with
    | cons d1 d2 =>
      cases d2 with
      | cons d2 d3 =>
        cases d3 with
        | cons d3 d4 =>
          cases d4
          exact ⟨_, _, _, rfl, ok.nx _ _ G1 H1 hΦ w ((((he.up w.g).set (s := .d _) d1).set (s := .d _) d2).set (s := .d _) d3)⟩
  · cases ho
theorem snd_for (h0 : SndI wi pi) (h1 : SndG g pg tl) (h2 : SndS t p) : SndS (tFor wi g t) (pFor pi pg p) := fun m ρ Φ h σ G H s he D ok => by
  refine h0 m ρ _ h σ G H s he _ fun ds J G1 H1 k w1 wk => ?_
  refine ⟨fun i n σc Hc => n = ds.length - i ∧ i ≤ ds.length ∧ ∃ Gc ρc, Grow m G1 H1 Gc Hc ∧ EnvOk m Gc σc ρc ∧ forP pg p (ds.drop i) ρc Φ, ⟨ds.length, rfl, Nat.zero_le _, G1, ρ, Grow.refl w1.st, he.up w1.g, k⟩, ?_⟩
  rintro i n σc Hc ⟨rfl, hle, Gc, ρc, w2, hec, hp⟩
  by_cases hlt : i < ds.length
  · have hds : ds[i]? = some ds[i] := List.getElem?_eq_getElem hlt
    refine .inr ⟨wk.goes i Gc Hc hlt w2.g w2.st, fun σn Hn => i + 1 ≤ ds.length ∧ ∃ Gn ρn, Grow m G1 H1 Gn Hn ∧ EnvOk m Gn σn ρn ∧ forP pg p (ds.drop (i + 1)) ρn Φ, fun σn Hn hn => ⟨ds.length - (i + 1), by omega, rfl, hn⟩, fun x H' y => ?_⟩
    obtain ⟨G3, w3, d3⟩ := wk.yields i _ Gc Hc x H' hds w2.g w2.st y
    rw [drop_cons_of hds] at hp
    obtain ⟨ρ', hpg, hp⟩ := hp
    refine h1 m _ ρc ρ' hpg x σc G3 H' w3.st (hec.up w3.g) d3 _ fun σ' he' _ => ?_
    have w23 := w2.trans w3
    exact h2 m ρ' _ hp σ' G3 H' w3.st he' _ ⟨fun ρ2 σ2 G4 H4 k4 w4 he4 => ⟨hlt, G4, ρ2, w23.trans w4, he4, k4⟩, fun v x G4 H4 k4 w4 d4 => ok.rt v x G4 H4 k4 (w1.trans (w23.trans w4)) d4, fun ρ2 σ2 G4 H4 k4 w4 he4 => ok.nx ρ2 σ2 G4 H4 k4 (w1.trans (w23.trans w4)) he4,
      fun ρ2 σ2 G4 H4 k4 w4 he4 => ⟨hlt, G4, ρ2, w23.trans w4, he4, k4⟩⟩
  · have e : i = ds.length := by omega
    subst e
    rw [List.drop_length] at hp
    exact .inl ⟨wk.stops Gc Hc w2.g w2.st, ok.nx ρc σc Gc Hc hp (w1.trans w2) hec⟩
theorem snd_while (h0 : SndT tc (lift ft)) (h1 : SndS t (lift f)) : SndS (tWhile tc t) (pWhile ft f) := fun m ρ Φ h σ G H s he D ok => by
  obtain ⟨n0, o0, hw0, hΦ0⟩ := h
  refine ⟨fun n σc Hc => ∃ Gc ρc o, Grow m G H Gc Hc ∧ EnvOk m Gc σc ρc ∧ whileF ft f n ρc = some o ∧ Φ o, ⟨n0, G, ρ, o0, Grow.refl s, he, hw0, hΦ0⟩, ?_⟩
  rintro n σc Hc ⟨Gc, ρc, o, w1, hec, hw, hΦ⟩
  cases n with
  | zero => cases hw
  | succ n =>
    obtain ⟨b, hb, hw⟩ := of_bind hw
    refine h0 m ρc (fun z => z = b) ⟨b, hb, rfl⟩ σc Gc Hc w1.st hec _ fun b' G2 H2 eb w2 => ?_
    subst eb
    have w12 := w1.trans w2
    cases b' with
    | false =>
      cases hw
      exact ok.nx ρc σc G2 H2 hΦ w12 (hec.up w2.g)
    | true =>
      obtain ⟨o1, ho1, hw⟩ := of_bind hw
      refine ⟨fun σn Hn => ∃ Gn ρn o, Grow m G H Gn Hn ∧ EnvOk m Gn σn ρn ∧ whileF ft f n ρn = some o ∧ Φ o, fun σn Hn hn => ⟨n, Nat.lt_succ_self n, hn⟩, ?_⟩
      refine h1 m ρc (fun z => z = o1) ⟨o1, ho1, rfl⟩ σc G2 H2 w12.st (hec.up w2.g) _ ⟨fun ρ2 σ2 G4 H4 k4 w4 he4 => ?_, fun v x G4 H4 k4 w4 d4 => ?_, fun ρ2 σ2 G4 H4 k4 w4 he4 => ?_, fun ρ2 σ2 G4 H4 k4 w4 he4 => ?_⟩
      · subst k4
        exact ⟨G4, ρ2, o, w12.trans w4, he4, hw, hΦ⟩
      · subst k4
        cases hw
        exact ok.rt v x G4 H4 hΦ (w12.trans w4) d4
      · subst k4
        cases hw
        exact ok.nx ρ2 σ2 G4 H4 hΦ (w12.trans w4) he4
      · subst k4
        exact ⟨G4, ρ2, o, w12.trans w4, he4, hw, hΦ⟩

theorem ms_nil : MSs X [] tNext pNext := ⟨pss_nil, snd_next⟩
theorem ms_cons (h1 : MS X st t p) (h2 : MSs X sts u q) : MSs X (st :: sts) (tSeq t u) (pSeq p q) := ⟨pss_cons h1.ps h2.ps, snd_seq h1.snd h2.snd⟩
theorem ms_one (h1 : MS X st t p) : MSs X [st] t p := ⟨pss_one h1.ps, h1.snd⟩
theorem fs_nil : FSs X [] tNext fNext := ms_nil.imp fun ρ Φ ⟨o, e, h⟩ => by cases e; exact h
theorem fs_cons (h1 : FS X st t f) (h2 : FSs X sts u h) : FSs X (st :: sts) (tSeq t u) (fSeq f h) := (ms_cons h1 h2).imp fun ρ Φ ⟨o, e, k⟩ => by
  obtain ⟨o1, e1, e⟩ := of_bind e
  refine ⟨o1, e1, ?_⟩
  cases o1 with
  | nx ρ' => exact ⟨o, e, k⟩
  | rt x => cases e; exact k
  | bk ρ' => cases e; exact k
  | ct ρ' => cases e; exact k
theorem fs_one (h1 : FS X st t f) : FSs X [st] t f := ms_one h1
theorem fasg_imp (ρ : DEnv) (Φ : Out → Prop) (k : lift (fAsg fe pg) ρ Φ) : pAsg (lift fe) pg ρ Φ := by
  obtain ⟨o, e, k⟩ := k
  obtain ⟨x, hx, e⟩ := of_bind e
  obtain ⟨ρ', h1, e⟩ := Option.map_eq_some_iff.mp e
  subst e
  exact ⟨x, hx, ρ', h1, k⟩
theorem ms_asg (h1 : ME X e te pe) (h2 : MG X tg g pg tl) (h : PE X e te → PG X tg g → PS X (.Assign [tg] e pos) (tAsg te g)) : MS X (.Assign [tg] e pos) (tAsg te g) (pAsg pe pg) := ⟨h h1.pe h2.tp, snd_asg h1.snd h2.snd⟩
theorem fs_asg (h1 : FE X e te fe) (h2 : MG X tg g pg tl) (h : PE X e te → PG X tg g → PS X (.Assign [tg] e pos) (tAsg te g)) : FS X (.Assign [tg] e pos) (tAsg te g) (fAsg fe pg) := (ms_asg h1 h2 h).imp fasg_imp
theorem sndg_name {i : Nat} : SndG (gName i) (pgName i) [i] := fun m d ρ ρ' e v σ G H s he dv Q q => by
  cases e
  exact q _ (he.set dv) fun vs hv => wipe_set (hv i (by simp))
theorem ms_set {i : Nat} {x : Str} {pos' : Pos} (h1 : ME X e te pe) (h : PE X e te → PS X (.Assign [.Name x pos'] e pos) (tAsg te (gName i))) : MS X (.Assign [.Name x pos'] e pos) (tAsg te (gName i)) (pAsg pe (pgName i)) := ⟨h h1.pe, snd_asg h1.snd sndg_name⟩
theorem fs_set {i : Nat} {x : Str} {pos' : Pos} (h1 : FE X e te fe) (h : PE X e te → PS X (.Assign [.Name x pos'] e pos) (tAsg te (gName i))) : FS X (.Assign [.Name x pos'] e pos) (tAsg te (gName i)) (fAsg fe (pgName i)) := (ms_set h1 h).imp fasg_imp
theorem ms_if {c : Expr} {a b : List Stmt} (h0 : MT X c tc pt) (h1 : MSs X a t p) (h2 : MSs X b u q) : MS X (.If c a b pos) (tIfS tc t u) (pIfS pt p q) := ⟨ps_if h0.pt h1.ps h2.ps, snd_ifS h0.snd h1.snd h2.snd⟩
theorem fs_if {c : Expr} {a b : List Stmt} (h0 : FT X c tc ft) (h1 : FSs X a t f) (h2 : FSs X b u h) : FS X (.If c a b pos) (tIfS tc t u) (fIfS ft f h) := (ms_if h0 h1 h2).imp fun ρ Φ ⟨o, e, k⟩ => by
  obtain ⟨y, hy, e⟩ := of_bind e
  refine ⟨y, hy, ?_⟩
  cases y with
  | true => exact ⟨o, e, k⟩
  | false => exact ⟨o, e, k⟩
theorem ms_ret (h1 : ME X e te pe) : MS X (.Return (some e) pos) (tRet te) (pRet pe) := ⟨ps_ret h1.pe, snd_ret h1.snd⟩
theorem fs_ret (h1 : FE X e te fe) : FS X (.Return (some e) pos) (tRet te) (fRet fe) := (ms_ret h1).imp fun ρ Φ ⟨o, e, k⟩ => by
  obtain ⟨x, hx, e⟩ := Option.map_eq_some_iff.mp e
  subst e
  exact ⟨x, hx, k⟩
theorem fs_expr (h1 : FE X e te fe) (h : PS X (.Expr e pos) (tDrop te)) : FS X (.Expr e pos) (tDrop te) (fDrop fe) := MS.imp ⟨h, snd_drop h1.snd⟩ fun ρ Φ ⟨o, e, k⟩ => by
  obtain ⟨x, hx, e⟩ := Option.map_eq_some_iff.mp e
  subst e
  exact ⟨x, hx, k⟩
theorem fs_never : FS X st tNever fNever := MS.imp ⟨ps_never, snd_never⟩ fun ρ Φ ⟨o, e, k⟩ => by cases e
theorem fss_never : FSs X sts tNever fNever := MSs.imp ⟨pss_never, snd_never⟩ fun ρ Φ ⟨o, e, k⟩ => by cases e
theorem fs_par {es : List Expr} {ta : TA} {fa : FAa} {n i j : Nat} (h1 : FA X es ta fa n) (h : PA X es ta → PS X st (tPar i j ta)) : FS X st (tPar i j ta) (fPar i j fa) := MS.imp ⟨h h1.pa, snd_par h1.snd⟩ fun ρ Φ ⟨o, e, k⟩ => by
  obtain ⟨xs, hx, e⟩ := of_bind e
  refine ⟨xs, hx, ?_⟩
  split at e
  · cases e
    exact ⟨_, _, rfl, k⟩
  · cases e
theorem fs_par3 {es : List Expr} {ta : TA} {fa : FAa} {n i j l : Nat} (h1 : FA X es ta fa n) (h : PA X es ta → PS X st (tPar3 i j l ta)) : FS X st (tPar3 i j l ta) (fPar3 i j l fa) := ⟨h h1.pa, snd_par3 h1.snd⟩
theorem for_imp2 {ρ : DEnv} {Φ : Out → Prop} : ∀ {ds : List PyData} {ρ : DEnv} {o : Out}, forF pg f ds ρ = some o → Φ o → forP pg (lift f) ds ρ Φ
  | [], ρ, o, e, k => by
    cases e
    exact k
  | d :: ds, ρ, o, e, k => by
    obtain ⟨ρ', h1, e⟩ := of_bind e
    obtain ⟨o1, h2, e⟩ := of_bind e
    refine ⟨ρ', h1, o1, h2, ?_⟩
    cases o1 with
    | nx ρ2 => exact for_imp2 (ρ := ρ) e k
    | ct ρ2 => exact for_imp2 (ρ := ρ) e k
    | bk ρ2 => cases e; exact k
    | rt x => cases e; exact k
theorem ms_for {body : List Stmt} (h0 : MI X tg iter wi pi) (h1 : MG X tg g pg tl) (h2 : MSs X body t p) (h : PI X tg iter wi → PG X tg g → PSs X body t → PS X (.For tg iter body [] pos) (tFor wi g t)) : MS X (.For tg iter body [] pos) (tFor wi g t) (pFor pi pg p) :=
  ⟨h h0.pi h1.tp h2.ps, snd_for h0.snd h1.snd h2.snd⟩
theorem fs_for {body : List Stmt} (h0 : FI X tg iter wi fi) (h1 : MG X tg g pg tl) (h2 : FSs X body t f) (h : PI X tg iter wi → PG X tg g → PSs X body t → PS X (.For tg iter body [] pos) (tFor wi g t)) : FS X (.For tg iter body [] pos) (tFor wi g t) (fFor fi pg f) :=
  (ms_for h0 h1 h2 h).imp fun ρ Φ ⟨o, e, k⟩ => by
    obtain ⟨ds, h1, e⟩ := of_bind e
    exact ⟨ds, h1, for_imp2 (ρ := ρ) e k⟩
theorem ms_while {c : Expr} {body : List Stmt} (h0 : FT X c tc ft) (h1 : FSs X body t f) (h : PT X c tc → PSs X body t → PS X (.While c body [] pos) (tWhile tc t)) : MS X (.While c body [] pos) (tWhile tc t) (pWhile ft f) :=
  ⟨h h0.pt h1.ps, snd_while h0.snd h1.snd⟩
/-- with a number of turns that is enough -/
def fWhile (n : Nat) (ft : FTt) (f : FSt) : FSt := whileF ft f n
theorem fs_while {c : Expr} {body : List Stmt} (n : Nat) (h0 : FT X c tc ft) (h1 : FSs X body t f) (h : PT X c tc → PSs X body t → PS X (.While c body [] pos) (tWhile tc t)) : FS X (.While c body [] pos) (tWhile tc t) (fWhile n ft f) :=
  (ms_while h0 h1 h).imp fun ρ Φ ⟨o, e, k⟩ => ⟨n, o, e, k⟩
end

/-! ### defs -/
def startD (n : Nat) (ds : List PyData) : DEnv := ds.map (fun d => some (.d d)) ++ List.replicate n none
def endD : Option Out → Option PyData
  | some (.rt x) => some x
  | some (.nx _) => some .none
  | _ => none
/-- a def of so many parameters, n further names -/
def runF (n : Nat) (f : FSt) (ds : List PyData) : Option PyData := endD (f (startD n ds))
/-- hands back what F says, and changes nothing -/
def spF (k : Nat) (F : List PyData → Option PyData) : Sp := fun vs H Q _ => ∃ G ds x, vs.length = k ∧ Ex G H ∧ DdAll G vs ds ∧ F ds = some x ∧ ∀ v G' H', Grow none G H G' H' → Dd G' v x → Q v H'
theorem env_start {m : Option Addr} {G : Hp} {N : List Str} {vs : List V} {ds : List PyData} {n : Nat} (d : DdAll G vs ds) (hn : N.length = vs.length + n) : EnvOk m G (L2.start N vs) (startD n ds) := by
  unfold L2.start startD
  have e : N.length - vs.length = n := by omega
  rw [e]
  refine ⟨by rw [List.length_append, List.length_append, List.length_map, List.length_map, d.len, List.length_replicate, List.length_replicate], fun i s h => ?_⟩
  rw [List.getElem?_append] at h
  rw [List.length_map] at h
  split at h
  · rename_i hi
    rw [List.getElem?_map] at h
    obtain ⟨x, hx, e⟩ := Option.map_eq_some_iff.mp h
    cases e
    obtain ⟨v, h1, h2⟩ := d.get hx
    refine ⟨v, ?_, h2⟩
    rw [List.getElem?_append_left (by rw [List.length_map, d.len]; exact hi), List.getElem?_map, h1]
    rfl
  · rw [List.getElem?_replicate] at h
    split at h <;> cases h
theorem fn_pure {P : Program} {w : World} {K : PySem.W.Frag} {mg : Str → Option Value} {base : Heap} {x qual : Str} {st : Stmt} {f : Addr} {fd : FuncData} {N ps : List Str} {k n : Nat} {b : FSt} (F : Fun K x qual st f fd) (S : FnScope N ps (defScope st)) (hn : N.length = ps.length + n)
    (hbody : ∀ (cdv : Value) (A : Around) (outer : List Env) (s : Shared) (H : Hp) (E : XK), Room k (A.deeper (PyProof.Rows.envOfC qual (defScope st) s.heap.objs.size f cdv)) →
      ∃ t, FSs (cxOf CX0 P w K mg base N qual (defScope st) f cdv A outer s H E).nox (defBody st) t b) : FnOk P w K mg base CX0 (k + 1) f fd ps (spF ps.length (runF n b)) := by
  refine F.ok S (fun vs H Q E h => ?_) (fun cdv A outer s H vs Q E hr h => ?_)
  · obtain ⟨_, _, _, hl, _⟩ := h
    exact hl
  · obtain ⟨G, ds, x, hl, hex, hd, hF, q⟩ := h
    obtain ⟨t, ht⟩ := hbody cdv A outer s H E hr
    refine ⟨t, ht.ps, ?_⟩
    have s0 : StOk none G H := ⟨hex, fun _ e => nomatch e⟩
    unfold runF endD at hF
    split at hF
    · rename_i o he
      cases hF
      refine ht.snd none _ (fun o => o = .rt x) ⟨_, he, rfl⟩ _ G H s0 (env_start hd (by rw [hn, hl])) _ ⟨fun ρ σ G' H' h _ _ => (nomatch h), fun y v G' H' h w' d' => ?_, fun ρ σ G' H' h _ _ => (nomatch h), fun ρ σ G' H' h _ _ => (nomatch h)⟩
      cases h
      exact q v G' H' w' d'
    · rename_i ρ1 he
      cases hF
      refine ht.snd none _ (fun o => o = .nx ρ1) ⟨_, he, rfl⟩ _ G H s0 (env_start hd (by rw [hn, hl])) _ ⟨fun ρ σ G' H' h w' _ => q _ G' H' w' .non, fun y v G' H' h w' d' => (nomatch h), fun ρ σ G' H' h _ _ => (nomatch h), fun ρ σ G' H' h _ _ => (nomatch h)⟩
    · cases hF
/-- what stands for a call -/
def fCall (F : List PyData → Option PyData) (fa : FAa) : FM := fun ρ => (fa ρ).bind F
def pCall (F : List PyData → Option PyData) (pa : PAa) : PM := fun ρ Φ => pa ρ fun ds => ∃ x, F ds = some x ∧ Φ x
theorem fcall_imp {F : List PyData → Option PyData} {fa : FAa} (ρ : DEnv) (Φ : PyData → Prop) (h : lift (fCall F fa) ρ Φ) : pCall F (lift fa) ρ Φ := by
  obtain ⟨x, hx, hΦ⟩ := h
  obtain ⟨ds, hd, hx⟩ := of_bind hx
  exact ⟨ds, hd, x, hx, hΦ⟩
theorem snd_call {k : Nat} {F : List PyData → Option PyData} {ta : TA} {pa : PAa} {E : XK} (h : SndA ta pa k) : SndE (tCall (spF k F) [] E ta) (pCall F pa) := by
  intro m ρ Φ hp σ G H s he Q q
  refine h m ρ _ hp σ G H s he _ fun ds vs G1 H1 ⟨x, hx, hΦ⟩ hl w1 d1 => ?_
  refine ⟨G1, ds, x, ?_, w1.st.ex, by rw [List.append_nil]; exact d1, hx, fun v G' H' w' d' => q x v G' H' hΦ (w1.trans (w'.any w1.st)) d'⟩
  rw [List.append_nil, d1.len]
  exact hl
theorem me_call {X : Cx} {x : Str} {p pos : Pos} {es : List Expr} {k : Nat} {F : List PyData → Option PyData} {ta : TA} {pa : PAa} {E : XK} (ha : MA X es ta pa k) (h : PA X es ta → PE X (.Call (.Name x p) es [] pos) (tCall (spF k F) [] E ta)) :
    ME X (.Call (.Name x p) es [] pos) (tCall (spF k F) [] E ta) (pCall F pa) := ⟨h ha.pa, snd_call ha.snd⟩
theorem fe_call {X : Cx} {x : Str} {p pos : Pos} {es : List Expr} {k : Nat} {F : List PyData → Option PyData} {ta : TA} {fa : FAa} {E : XK} (ha : FA X es ta fa k) (h : PA X es ta → PE X (.Call (.Name x p) es [] pos) (tCall (spF k F) [] E ta)) :
    FE X (.Call (.Name x p) es [] pos) (tCall (spF k F) [] E ta) (fCall F fa) := (me_call ha h).imp fcall_imp

/-! ### built-ins by data -/
def SndC (r : List V → Hp → VK → Prop) (fr : List PyData → Option PyData) : Prop := ∀ ds z, fr ds = some z → ∀ (m : Option Addr) (vs : List V) (G H : Hp), StOk m G H → DdAll G vs ds →
  ∀ Q : VK, (∀ u G' H', Grow m G H G' H' → Dd G' u z → Q u H') → r vs H Q
theorem snd_cb {r : List V → Hp → VK → Prop} {fr : List PyData → Option PyData} {ta : TA} {pa : PAa} {n : Nat} (h : SndA ta pa n) (hr : SndC r fr) : SndE (tCB r ta) (pCall fr pa) := by
  intro m ρ Φ hp σ G H s he Q q
  refine h m ρ _ hp σ G H s he _ fun ds vs G1 H1 ⟨x, hx, hΦ⟩ hl w1 d1 => ?_
  exact hr ds x hx m vs G1 H1 w1.st d1 Q fun u G' H' w' d' => q x u G' H' hΦ (w1.trans w') d'
theorem me_cb {X : Cx} {x : Str} {p pos : Pos} {es : List Expr} {n : Nat} {r : List V → Hp → VK → Prop} {fr : List PyData → Option PyData} {ta : TA} {pa : PAa} (hr : SndC r fr) (ha : MA X es ta pa n) (h : PA X es ta → PE X (.Call (.Name x p) es [] pos) (tCB r ta)) :
    ME X (.Call (.Name x p) es [] pos) (tCB r ta) (pCall fr pa) := ⟨h ha.pa, snd_cb ha.snd hr⟩
theorem fe_cb {X : Cx} {x : Str} {p pos : Pos} {es : List Expr} {n : Nat} {r : List V → Hp → VK → Prop} {fr : List PyData → Option PyData} {ta : TA} {fa : FAa} (hr : SndC r fr) (ha : FA X es ta fa n) (h : PA X es ta → PE X (.Call (.Name x p) es [] pos) (tCB r ta)) :
    FE X (.Call (.Name x p) es [] pos) (tCB r ta) (fCall fr fa) := (me_cb hr ha h).imp fcall_imp
def lenF : List PyData → Option PyData
  | [.list xs] => some (.int xs.length)
  | [.tuple xs] => some (.int xs.length)
  | _ => none
def allF : List PyData → Option PyData
  | [.list xs] => (boolsOf xs).map fun bs => .bool (bs.all id)
  | _ => none
def anyF : List PyData → Option PyData
  | [.list xs] => (boolsOf xs).map fun bs => .bool (bs.any id)
  | _ => none
def tupleF : List PyData → Option PyData
  | [.list xs] => some (.tuple xs)
  | [.tuple xs] => some (.tuple xs)
  | _ => none
def minF : List PyData → Option PyData
  | [.int i, .int j] => some (.int (if j < i then j else i))
  | _ => none
def rLenA (K : PySem.W.Frag) : List V → Hp → VK → Prop := fun xs H Q => ∃ p ys, xs = [.ref p] ∧ (SqL K H p ys ∨ SqT K H p ys) ∧ Q (.int ys.length) H
def rTupA (K : PySem.W.Frag) : List V → Hp → VK → Prop := fun xs H Q => ∃ p ys, xs = [.ref p] ∧ ((SqL K H p ys ∧ ∀ l, H l = none → Q (.ref l) (upd H l (.tup ys))) ∨ (SqT K H p ys ∧ Q (.ref p) H))
def rMin2 : List V → Hp → VK → Prop := fun xs H Q => ∃ i j, xs = [.int i, .int j] ∧ Q (.int (if j < i then j else i)) H
section
variable {K : PySem.W.Frag}
theorem sc_len : SndC (rLenA K) lenF := by
  intro ds z h m vs G H s d Q q
  unfold lenF at h
  split at h
  · cases h
    cases d with
    | cons d1 d2 =>
      cases d2
      cases d1 with
      | lst e a => exact ⟨_, _, rfl, .inl (SqL.of (s.ex _ _ e)), by rw [a.len]; exact q _ G H (Grow.refl s) (.int _)⟩
  · cases h
    cases d with
    | cons d1 d2 =>
      cases d2
      cases d1 with
      | tup e a => exact ⟨_, _, rfl, .inr (SqT.of (s.ex _ _ e)), by rw [a.len]; exact q _ G H (Grow.refl s) (.int _)⟩
  · cases h
theorem sc_all : SndC (rAll K) allF := by
  intro ds z h m vs G H s d Q q
  unfold allF at h
  split at h
  · obtain ⟨bs, hb, e⟩ := Option.map_eq_some_iff.mp h
    subst e
    rw [boolsOf_eq hb] at d
    cases d with
    | cons d1 d2 =>
      cases d2
      cases d1 with
      | lst e a => exact ⟨_, bs, rfl, SqL.of (by rw [← a.bools]; exact s.ex _ _ e), q _ G H (Grow.refl s) (.bl _)⟩
  · cases h
theorem sc_any : SndC (rAny K) anyF := by
  intro ds z h m vs G H s d Q q
  unfold anyF at h
  split at h
  · obtain ⟨bs, hb, e⟩ := Option.map_eq_some_iff.mp h
    subst e
    rw [boolsOf_eq hb] at d
    cases d with
    | cons d1 d2 =>
      cases d2
      cases d1 with
      | lst e a => exact ⟨_, bs, rfl, SqL.of (by rw [← a.bools]; exact s.ex _ _ e), q _ G H (Grow.refl s) (.bl _)⟩
  · cases h
theorem sc_tuple : SndC (rTupA K) tupleF := by
  intro ds z h m vs G H s d Q q
  unfold tupleF at h
  split at h
  · cases h
    cases d with
    | cons d1 d2 =>
      cases d2
      cases d1 with
      | lst e a => exact ⟨_, _, rfl, .inl ⟨SqL.of (s.ex _ _ e), fun l hl => q _ _ _ (Grow.new s hl) (.tup upd_same (a.up (Grow.new s hl).g))⟩⟩
  · cases h
    cases d with
    | cons d1 d2 =>
      cases d2
      cases d1 with
      | tup e a => exact ⟨_, _, rfl, .inr ⟨SqT.of (s.ex _ _ e), q _ G H (Grow.refl s) (.tup e a)⟩⟩
  · cases h
theorem sc_min : SndC rMin2 minF := by
  intro ds z h m vs G H s d Q q
  unfold minF at h
  split at h
  · cases h
    cases d with
    | cons d1 d2 =>
      cases d2 with
      | cons d2 d3 =>
        cases d3
        cases d1
        cases d2
        exact ⟨_, _, rfl, q _ G H (Grow.refl s) (.int _)⟩
  · cases h
end
end DL
/-! DL5: comprehensions as rules, isinstance, list(range), names' targets in short. -/
namespace DL
open PySem L2
open Evl (Ex)

theorem hu65 {k : Nat} {A : Around} (r : Room k A) : A.units + 65 < cLine := by
  have := r.un
  omega
/-! ### tests of a clause -/
structure MTs (X : Cx) (ifs : List Expr) (tt : TT) (p : PTt) : Prop where
  ps : PTs X ifs tt
  snd : SndT tt p
abbrev FTs (X : Cx) (ifs : List Expr) (tt : TT) (f : FTt) : Prop := MTs X ifs tt (lift f)
def fYes : FTt := fun _ => some true
theorem fts_nil {X : Cx} : FTs X [] tYes fYes := ⟨pts_nil, fun m ρ Φ ⟨b, e, h⟩ σ G H s he Q q => by cases e; exact q true G H h (Grow.refl s)⟩
theorem fts_one {X : Cx} {c : Expr} {tt : TT} {f : FTt} (h : FT X c tt f) : FTs X [c] tt f := ⟨pts_one h.pt, h.snd⟩
theorem mts_one {X : Cx} {c : Expr} {tt : TT} {p : PTt} (h : MT X c tt p) : MTs X [c] tt p := ⟨pts_one h.pt, h.snd⟩

section
variable {X : Cx} {elt tg iter : Expr} {ifs : List Expr} {scope : Scope} {own : List (Str × Nat)} {pos : Pos} {wi : TI} {g : TG} {tt : TT} {te : TE} {pi : PAa} {pg : PGd} {pt : PTt} {pe : PM} {ts : List Nat} {fi : FAa} {ft : FTt} {fe : FM}
theorem me_lc (hc : X.calm = true) (hN : X.N.Nodup) (hi : MI X tg iter wi pi) (ok : BlkOk X.N X.env.scope scope own)
    (hg : ∀ (s : Shared) (H : Hp) (C : Addr) (cl : List (Str × Addr)) (fp : List Addr), MG (X.blk s H scope (compEnvC scope cl C X.env) fp) tg g pg ts)
    (hv : ∀ i ∈ ts, i ∈ own.map (·.2))
    (ht : ∀ (s : Shared) (H : Hp) (C : Addr) (cl : List (Str × Addr)) (fp : List Addr), MTs (X.blk s H scope (compEnvC scope cl C X.env) fp) ifs tt pt)
    (he : ∀ (s : Shared) (H : Hp) (C : Addr) (cl : List (Str × Addr)) (fp : List Addr), ME (X.blk s H scope (compEnvC scope cl C X.env) fp) elt te pe)
    (hs : ∀ x, foldedSetIterable iter X.env x = pure x := by intro _; rfl) :
    ME X (.ListComp elt [⟨tg, iter, ifs, 0⟩] scope pos) (tLc wi g tt te (own.map (·.2))) (pLc pi pg pt pe (own.map (·.2))) :=
  ⟨pe_lc hc hN hi.pi ok (fun s H C cl fp => (hg s H C cl fp).tp) (fun s H C cl fp => (ht s H C cl fp).ps) (fun s H C cl fp => (he s H C cl fp).pe) hs,
    snd_lc hi.snd (hg X.s_0 X.H_0 X.env.locals [] []).snd hv (ht X.s_0 X.H_0 X.env.locals [] []).snd (he X.s_0 X.H_0 X.env.locals [] []).snd⟩
theorem fe_lc (hc : X.calm = true) (hN : X.N.Nodup) (hi : FI X tg iter wi fi) (ok : BlkOk X.N X.env.scope scope own)
    (hg : ∀ (s : Shared) (H : Hp) (C : Addr) (cl : List (Str × Addr)) (fp : List Addr), MG (X.blk s H scope (compEnvC scope cl C X.env) fp) tg g pg ts)
    (hv : ∀ i ∈ ts, i ∈ own.map (·.2))
    (ht : ∀ (s : Shared) (H : Hp) (C : Addr) (cl : List (Str × Addr)) (fp : List Addr), FTs (X.blk s H scope (compEnvC scope cl C X.env) fp) ifs tt ft)
    (he : ∀ (s : Shared) (H : Hp) (C : Addr) (cl : List (Str × Addr)) (fp : List Addr), FE (X.blk s H scope (compEnvC scope cl C X.env) fp) elt te fe)
    (hs : ∀ x, foldedSetIterable iter X.env x = pure x := by intro _; rfl) :
    FE X (.ListComp elt [⟨tg, iter, ifs, 0⟩] scope pos) (tLc wi g tt te (own.map (·.2))) (fLc fi pg ft fe (own.map (·.2))) := (me_lc hc hN hi ok hg hv ht he hs).imp flc_imp
theorem ms_setLc {i : Nat} {y : Str} {py : Pos} {spos : Pos} (hc : X.calm = true) (hN : X.N.Nodup) (hy : X.N[i]? = some y) (hyl : X.env.scope.names.lookup y = some .local)
    (hsw : swapsWith (.ListComp elt [⟨tg, iter, ifs, 0⟩] scope pos) (some (.Name y py)) spos.line X.env = pure true) (hi : MI X tg iter wi pi) (ok : BlkOk X.N X.env.scope scope own)
    (hg : ∀ (s : Shared) (H : Hp) (C : Addr) (cl : List (Str × Addr)) (fp : List Addr), MG (X.blk s H scope (compEnvC scope cl C X.env) fp) tg g pg ts)
    (hv : ∀ i ∈ ts, i ∈ own.map (·.2))
    (ht : ∀ (s : Shared) (H : Hp) (C : Addr) (cl : List (Str × Addr)) (fp : List Addr), MTs (X.blk s H scope (compEnvC scope cl C X.env) fp) ifs tt pt)
    (he : ∀ (s : Shared) (H : Hp) (C : Addr) (cl : List (Str × Addr)) (fp : List Addr), ME (X.blk s H scope (compEnvC scope cl C X.env) fp) elt te pe)
    (hs : ∀ x, foldedSetIterable iter X.env x = pure x := by intro _; rfl) :
    MS X (.Assign [.Name y py] (.ListComp elt [⟨tg, iter, ifs, 0⟩] scope pos) spos) (tAsg (tLc wi g tt te (own.map (·.2))) (gName i)) (pAsg (pLc pi pg pt pe (own.map (·.2))) (pgName i)) :=
  ⟨ps_setLc hc hN hy hyl hsw hi.pi ok (fun s H C cl fp => (hg s H C cl fp).tp) (fun s H C cl fp => (ht s H C cl fp).ps) (fun s H C cl fp => (he s H C cl fp).pe) hs,
    snd_asg (snd_lc hi.snd (hg X.s_0 X.H_0 X.env.locals [] []).snd hv (ht X.s_0 X.H_0 X.env.locals [] []).snd (he X.s_0 X.H_0 X.env.locals [] []).snd) sndg_name⟩
theorem fs_setLc {i : Nat} {y : Str} {py : Pos} {spos : Pos} (hc : X.calm = true) (hN : X.N.Nodup) (hy : X.N[i]? = some y) (hyl : X.env.scope.names.lookup y = some .local)
    (hsw : swapsWith (.ListComp elt [⟨tg, iter, ifs, 0⟩] scope pos) (some (.Name y py)) spos.line X.env = pure true) (hi : FI X tg iter wi fi) (ok : BlkOk X.N X.env.scope scope own)
    (hg : ∀ (s : Shared) (H : Hp) (C : Addr) (cl : List (Str × Addr)) (fp : List Addr), MG (X.blk s H scope (compEnvC scope cl C X.env) fp) tg g pg ts)
    (hv : ∀ i ∈ ts, i ∈ own.map (·.2))
    (ht : ∀ (s : Shared) (H : Hp) (C : Addr) (cl : List (Str × Addr)) (fp : List Addr), FTs (X.blk s H scope (compEnvC scope cl C X.env) fp) ifs tt ft)
    (he : ∀ (s : Shared) (H : Hp) (C : Addr) (cl : List (Str × Addr)) (fp : List Addr), FE (X.blk s H scope (compEnvC scope cl C X.env) fp) elt te fe)
    (hs : ∀ x, foldedSetIterable iter X.env x = pure x := by intro _; rfl) :
    FS X (.Assign [.Name y py] (.ListComp elt [⟨tg, iter, ifs, 0⟩] scope pos) spos) (tAsg (tLc wi g tt te (own.map (·.2))) (gName i)) (fAsg (fLc fi pg ft fe (own.map (·.2))) (pgName i)) :=
  (ms_setLc hc hN hy hyl hsw hi ok hg hv ht he hs).imp fun ρ Φ k => by
    have h := fasg_imp ρ Φ k
    exact flc_imp ρ _ h
end

/-! ### two clauses -/
def lcF2 (pg1 : PGd) (tt1 : FTt) (te : FM) (vs1 : List Nat) : List PyData → DEnv → Option (List PyData) := lcF pg1 tt1 te vs1
def lcO2 (pg : PGd) (tt : FTt) (fi1 : FAa) (pg1 : PGd) (tt1 : FTt) (te : FM) (vs vs1 : List Nat) : List PyData → DEnv → Option (List PyData)
  | [], _ => some []
  | d :: ds, ρ => (pg d (wipeD ρ vs)).bind fun ρ' => (tt ρ').bind fun b => if b = true then (fi1 ρ').bind fun es => (lcF pg1 tt1 te vs1 es ρ').bind fun ys => (lcO2 pg tt fi1 pg1 tt1 te vs vs1 ds ρ).map fun zs => ys ++ zs
    else lcO2 pg tt fi1 pg1 tt1 te vs vs1 ds ρ
def fLc2 (fi : FAa) (pg : PGd) (tt : FTt) (fi1 : FAa) (pg1 : PGd) (tt1 : FTt) (te : FM) (vs vs1 : List Nat) : FM := fun ρ => (fi ρ).bind fun ds => (lcO2 pg tt fi1 pg1 tt1 te vs vs1 ds ρ).bind fun ys => if ys.length ≤ cap then some (.list ys) else none
theorem lcF_drop {pg : PGd} {tt : FTt} {te : FM} {vs : List Nat} {ρ : DEnv} {d : PyData} {ds ys : List PyData} (h : lcF pg tt te vs (d :: ds) ρ = some ys) :
    ∃ ρ' b, pg d (wipeD ρ vs) = some ρ' ∧ tt ρ' = some b ∧ ((b = true ∧ ∃ y zs, te ρ' = some y ∧ lcF pg tt te vs ds ρ = some zs ∧ ys = y :: zs) ∨ (b = false ∧ lcF pg tt te vs ds ρ = some ys)) := by
  obtain ⟨ρ', h1, h⟩ := of_bind h
  obtain ⟨b, h2, h⟩ := of_bind h
  refine ⟨ρ', b, h1, h2, ?_⟩
  cases b with
  | true =>
    obtain ⟨y, h3, h⟩ := of_bind h
    obtain ⟨zs, h4, e⟩ := Option.map_eq_some_iff.mp h
    exact .inl ⟨rfl, y, zs, h3, h4, e.symm⟩
  | false => exact .inr ⟨rfl, h⟩
theorem snd_lc2 {wi wi1 : TI} {g g1 : TG} {tt tt1 : TT} {te : TE} {fi fi1 : FAa} {pg pg1 : PGd} {ft ft1 : FTt} {fe : FM} {ts ts1 vs vs1 : List Nat} (hi : SndI wi (lift fi)) (hg : SndG g pg ts) (hv : ∀ i ∈ ts, i ∈ vs) (ht : SndT tt (lift ft))
    (hi1 : SndI wi1 (lift fi1)) (hg1 : SndG g1 pg1 ts1) (hv1 : ∀ i ∈ ts1, i ∈ vs1) (ht1 : SndT tt1 (lift ft1)) (he : SndE te (lift fe)) : SndE (tLc2 wi g tt wi1 g1 tt1 te vs vs1) (lift (fLc2 fi pg ft fi1 pg1 ft1 fe vs vs1)) := by
  intro m ρ Φ hp σ G H s hE Q q
  obtain ⟨z, hz, hΦ⟩ := hp
  obtain ⟨ds, hds, hz⟩ := of_bind hz
  obtain ⟨ys, hys, hz⟩ := of_bind hz
  have hcap : ys.length ≤ cap := by
    split at hz
    · assumption
    · cases hz
  rw [if_pos hcap] at hz
  cases hz
  refine hi m ρ (fun t => t = ds) ⟨ds, hds, rfl⟩ σ G H s hE _ fun ds' J G1 H1 ed w1 wk D hD => ?_
  subst ed
  have hmD : m ≠ some D := w1.st.nom hD
  have hgD : G1 D = none := w1.st.nog hD
  have hcl : ∀ n, n < ys.length → n < sizeLine := fun n hn => Nat.lt_of_lt_of_le hn (cap_line hcap)
  refine ⟨fun i n Hc => n = ds'.length - i ∧ i ≤ ds'.length ∧ ∃ Gc acc vacc rest, Grow m G1 H1 Gc Hc ∧ Hc D = some (.lst vacc) ∧ Gc D = none ∧ DdAll Gc vacc acc ∧ lcO2 pg ft fi1 pg1 ft1 fe vs vs1 (ds'.drop i) ρ = some rest ∧ acc ++ rest = ys,
    ⟨ds'.length, rfl, Nat.zero_le _, G1, [], [], ys, Grow.hid w1.st hD, upd_same, hgD, .nil, hys, rfl⟩, ?_⟩
  rintro i n Hc ⟨rfl, hle, Gc, acc, vacc, rest, w2, hDc, hgc, da, hlc, hall⟩
  by_cases hlt : i < ds'.length
  · have hdi : ds'[i]? = some ds'[i] := List.getElem?_eq_getElem hlt
    refine .inr ⟨wk.goes i Gc Hc hlt w2.g w2.st, fun Hn => i + 1 ≤ ds'.length ∧ ∃ Gc acc vacc rest, Grow m G1 H1 Gc Hn ∧ Hn D = some (.lst vacc) ∧ Gc D = none ∧ DdAll Gc vacc acc ∧ lcO2 pg ft fi1 pg1 ft1 fe vs vs1 (ds'.drop (i + 1)) ρ = some rest ∧ acc ++ rest = ys,
      fun Hn hn => ⟨ds'.length - (i + 1), by omega, rfl, hn⟩, fun x H' y => ?_⟩
    obtain ⟨G3, w3, d3⟩ := wk.yields i _ Gc Hc x H' hdi w2.g w2.st y
    rw [drop_cons_of hdi] at hlc
    obtain ⟨ρ', hpg, hlc⟩ := of_bind hlc
    obtain ⟨b, hb, hlc⟩ := of_bind hlc
    have hE3 : EnvOk m G3 (wipe σ vs) (wipeD ρ vs) := ((hE.up w1.g).up (w2.g.trans w3.g)).wipe vs
    refine hg m _ _ ρ' hpg x _ G3 H' w3.st hE3 d3 _ fun σ' hE' hw => ⟨by rw [hw vs hv, wipe_wipe], ?_⟩
    refine ht m ρ' (fun t => t = b) ⟨b, hb, rfl⟩ σ' G3 H' w3.st hE' _ fun b' G4 H4 eb w4 => ?_
    subst eb
    have w34 := w3.trans w4
    have g4 : G4 D = none := w34.nog hDc hgc
    have h4 : H4 D = some (.lst vacc) := w34.h D _ hDc hmD
    cases b' with
    | false => exact ⟨hlt, G4, acc, vacc, rest, w2.trans w34, h4, g4, da.up w34.g, hlc, hall⟩
    | true =>
      obtain ⟨es, hes, hlc⟩ := of_bind hlc
      obtain ⟨ys1, hys1, hlc⟩ := of_bind hlc
      obtain ⟨zs, hzs, ez⟩ := Option.map_eq_some_iff.mp hlc
      refine hi1 m ρ' (fun t => t = es) ⟨es, hes, rfl⟩ σ' G4 H4 w4.st (hE'.up w4.g) _ fun es' J1 G5 H5 ee w5 wk1 => ?_
      subst ee
      have w35 := w34.trans w5
      have hE5 : EnvOk m G5 σ' ρ' := hE'.up (w4.g.trans w5.g)
      refine ⟨fun j k Hk => k = es'.length - j ∧ j ≤ es'.length ∧ ∃ Gk acck vacck restk, Grow m G1 H1 Gk Hk ∧ Ex G5 Gk ∧ Hk D = some (.lst vacck) ∧ Gk D = none ∧ DdAll Gk vacck acck ∧ lcF pg1 ft1 fe vs1 (es'.drop j) ρ' = some restk ∧ acck ++ restk ++ zs = ys,
        ⟨es'.length, rfl, Nat.zero_le _, G5, acc, vacc, ys1, w2.trans w35, Evl.Ex.refl G5, w35.h D _ hDc hmD, w35.nog hDc hgc, da.up w35.g, hys1, ?_⟩, ?_⟩
      · rw [List.append_assoc]
        subst ez
        exact hall
      · rintro j k Hk ⟨rfl, hjl, Gk, acck, vacck, restk, w6, x6, hDk, hgk, dk, hlk, hallk⟩
        by_cases hjt : j < es'.length
        · have hdj : es'[j]? = some es'[j] := List.getElem?_eq_getElem hjt
          refine .inr ⟨wk1.goes j Gk Hk hjt x6 w6.st, fun Hn => j + 1 ≤ es'.length ∧ ∃ Gk acck vacck restk, Grow m G1 H1 Gk Hn ∧ Ex G5 Gk ∧ Hn D = some (.lst vacck) ∧ Gk D = none ∧ DdAll Gk vacck acck ∧ lcF pg1 ft1 fe vs1 (es'.drop (j + 1)) ρ' = some restk ∧ acck ++ restk ++ zs = ys,
            fun Hn hn => ⟨es'.length - (j + 1), by omega, rfl, hn⟩, fun x1 H7 y1 => ?_⟩
          obtain ⟨G7, w7, d7⟩ := wk1.yields j _ Gk Hk x1 H7 hdj x6 w6.st y1
          rw [drop_cons_of hdj] at hlk
          obtain ⟨ρ2, b2, hpg1, hb2, hlk⟩ := lcF_drop hlk
          have hE7 : EnvOk m G7 (wipe σ' vs1) (wipeD ρ' vs1) := ((hE5.up x6).up w7.g).wipe vs1
          refine hg1 m _ _ ρ2 hpg1 x1 _ G7 H7 w7.st hE7 d7 _ fun σ2 hE2 hw2 => ⟨by rw [hw2 vs1 hv1, wipe_wipe], ?_⟩
          refine ht1 m ρ2 (fun t => t = b2) ⟨b2, hb2, rfl⟩ σ2 G7 H7 w7.st hE2 _ fun b3 G8 H8 eb w8 => ?_
          subst eb
          have w78 := w7.trans w8
          have g8 : G8 D = none := w78.nog hDk hgk
          have h8 : H8 D = some (.lst vacck) := w78.h D _ hDk hmD
          rcases hlk with ⟨eb, y2, zs2, hte, hlz, ey⟩ | ⟨eb, hlz⟩
          · subst eb
            refine he m ρ2 (fun t => t = y2) ⟨y2, hte, rfl⟩ σ2 G8 H8 w8.st (hE2.up w8.g) _ fun y3 v G9 H9 ey3 w9 d9 => ?_
            subst ey3
            have w79 := w78.trans w9
            have g9 : G9 D = none := w79.nog hDk hgk
            refine ⟨vacck, w79.h D _ hDk hmD, ?_, hjt, G9, acck ++ [y3], vacck ++ [v], zs2, (w6.trans w79).putN hD hmD g9, x6.trans w79.g, upd_same, g9, (dk.up w79.g).app (.one d9), hlz, ?_⟩
            · rw [dk.len]
              refine hcl _ ?_
              rw [← hallk, ey]
              simp only [List.length_append, List.length_cons]
              omega
            · rw [← hallk, ey]
              simp only [List.append_assoc, List.cons_append, List.nil_append]
          · subst eb
            exact ⟨hjt, G8, acck, vacck, restk, w6.trans w78, x6.trans w78.g, h8, g8, dk.up w78.g, hlz, hallk⟩
        · have e : j = es'.length := by omega
          subst e
          rw [List.drop_length] at hlk
          cases hlk
          exact .inl ⟨wk1.stops Gk Hk x6 w6.st, hlt, Gk, acck, vacck, zs, w6, hDk, hgk, dk, hzs, by rw [List.append_nil] at hallk; exact hallk⟩
  · have e : i = ds'.length := by omega
    subst e
    rw [List.drop_length] at hlc
    cases hlc
    rw [List.append_nil] at hall
    subst hall
    exact .inl ⟨wk.stops Gc Hc w2.g w2.st, q _ _ _ _ hΦ (w1.trans (w2.told hD hmD hDc hgc)) (.lst upd_same (da.up (Evl.Ex.new hgc)))⟩

section
variable {X : Cx} {elt tg iter tg1 iter1 : Expr} {ifs ifs1 : List Expr} {scope : Scope} {own : List (Str × Nat)} {vs1 : List Nat} {pos : Pos} {wi wi1 : TI} {g g1 : TG} {tt tt1 : TT} {te : TE} {fi fi1 : FAa} {pg pg1 : PGd} {ft ft1 : FTt} {fe : FM} {ts ts1 : List Nat}
theorem fe_lc2 (hc : X.calm = true) (hN : X.N.Nodup) (hi : FI X tg iter wi fi) (ok : BlkOk X.N X.env.scope scope own) (hvs : ∀ i ∈ vs1, i ∈ own.map (·.2))
    (hg : ∀ (s : Shared) (H : Hp) (C : Addr) (cl : List (Str × Addr)) (fp : List Addr), MG (X.blk s H scope (compEnvC scope cl C X.env) fp) tg g pg ts) (hv : ∀ i ∈ ts, i ∈ own.map (·.2))
    (ht : ∀ (s : Shared) (H : Hp) (C : Addr) (cl : List (Str × Addr)) (fp : List Addr), FTs (X.blk s H scope (compEnvC scope cl C X.env) fp) ifs tt ft)
    (hi1 : ∀ (s : Shared) (H : Hp) (C : Addr) (cl : List (Str × Addr)) (fp : List Addr), FI (X.blk s H scope (compEnvC scope cl C X.env) fp) tg1 iter1 wi1 fi1)
    (hg1 : ∀ (s : Shared) (H : Hp) (C : Addr) (cl : List (Str × Addr)) (fp : List Addr), MG (X.blk s H scope (compEnvC scope cl C X.env) fp) tg1 g1 pg1 ts1) (hv1 : ∀ i ∈ ts1, i ∈ vs1)
    (ht1 : ∀ (s : Shared) (H : Hp) (C : Addr) (cl : List (Str × Addr)) (fp : List Addr), FTs (X.blk s H scope (compEnvC scope cl C X.env) fp) ifs1 tt1 ft1)
    (he : ∀ (s : Shared) (H : Hp) (C : Addr) (cl : List (Str × Addr)) (fp : List Addr), FE (X.blk s H scope (compEnvC scope cl C X.env) fp) elt te fe) (hs : ∀ x, foldedSetIterable iter X.env x = pure x := by intro _; rfl) (hs1 : ∀ env x, foldedSetIterable iter1 env x = pure x := by intro _ _; rfl) :
    FE X (.ListComp elt [⟨tg, iter, ifs, 0⟩, ⟨tg1, iter1, ifs1, 0⟩] scope pos) (tLc2 wi g tt wi1 g1 tt1 te (own.map (·.2)) vs1) (fLc2 fi pg ft fi1 pg1 ft1 fe (own.map (·.2)) vs1) :=
  ⟨pe_lc2 hc hN hi.pi ok hvs (fun s H C cl fp => (hg s H C cl fp).tp) (fun s H C cl fp => (ht s H C cl fp).ps) (fun s H C cl fp => (hi1 s H C cl fp).pi) (fun s H C cl fp => (hg1 s H C cl fp).tp) (fun s H C cl fp => (ht1 s H C cl fp).ps) (fun s H C cl fp => (he s H C cl fp).pe) hs hs1,
    snd_lc2 hi.snd (hg X.s_0 X.H_0 X.env.locals [] []).snd hv (ht X.s_0 X.H_0 X.env.locals [] []).snd (hi1 X.s_0 X.H_0 X.env.locals [] []).snd (hg1 X.s_0 X.H_0 X.env.locals [] []).snd hv1 (ht1 X.s_0 X.H_0 X.env.locals [] []).snd (he X.s_0 X.H_0 X.env.locals [] []).snd⟩
end

/-! ### isinstance -/
def tyD : PyData → String
  | .none => "NoneType"
  | .bool _ => "bool"
  | .int _ => "int"
  | .str _ => "str"
  | .list _ => "list"
  | .tuple _ => "tuple"
  | .dict _ => "dict"
def isIntD : PyData → Bool
  | .bool _ => true
  | .int _ => true
  | _ => false
def isBoolD : PyData → Bool
  | .bool _ => true
  | _ => false
def isTupD : PyData → Bool
  | .tuple _ => true
  | _ => false
def isStrD : PyData → Bool
  | .str _ => true
  | _ => false
theorem kit_int (x : PyData) : kitB (tyD x) "int" = some (isIntD x) := by
  cases x
  · show kitB "NoneType" "int" = some false
    decide +kernel
  · show kitB "bool" "int" = some true
    decide +kernel
  · show kitB "int" "int" = some true
    decide +kernel
  · show kitB "str" "int" = some false
    decide +kernel
  · show kitB "list" "int" = some false
    decide +kernel
  · show kitB "tuple" "int" = some false
    decide +kernel
  · show kitB "dict" "int" = some false
    decide +kernel
theorem kit_bool (x : PyData) : kitB (tyD x) "bool" = some (isBoolD x) := by
  cases x
  · show kitB "NoneType" "bool" = some false
    decide +kernel
  · show kitB "bool" "bool" = some true
    decide +kernel
  · show kitB "int" "bool" = some false
    decide +kernel
  · show kitB "str" "bool" = some false
    decide +kernel
  · show kitB "list" "bool" = some false
    decide +kernel
  · show kitB "tuple" "bool" = some false
    decide +kernel
  · show kitB "dict" "bool" = some false
    decide +kernel
theorem kit_tup (x : PyData) : kitB (tyD x) "tuple" = some (isTupD x) := by
  cases x
  · show kitB "NoneType" "tuple" = some false
    decide +kernel
  · show kitB "bool" "tuple" = some false
    decide +kernel
  · show kitB "int" "tuple" = some false
    decide +kernel
  · show kitB "str" "tuple" = some false
    decide +kernel
  · show kitB "list" "tuple" = some false
    decide +kernel
  · show kitB "tuple" "tuple" = some true
    decide +kernel
  · show kitB "dict" "tuple" = some false
    decide +kernel
theorem kit_str (x : PyData) : kitB (tyD x) "str" = some (isStrD x) := by
  cases x
  · show kitB "NoneType" "str" = some false
    decide +kernel
  · show kitB "bool" "str" = some false
    decide +kernel
  · show kitB "int" "str" = some false
    decide +kernel
  · show kitB "str" "str" = some true
    decide +kernel
  · show kitB "list" "str" = some false
    decide +kernel
  · show kitB "tuple" "str" = some false
    decide +kernel
  · show kitB "dict" "str" = some false
    decide +kernel
theorem Dd.ty {K : PySem.W.Frag} {H : Hp} {v : V} {x : PyData} (d : Dd H v x) : TyX K H v (.type (tyD x)) := by
  cases d with
  | non => exact .base .non
  | bl b => exact .base (.bl b)
  | int i => exact .base (.int i)
  | str s => exact .base (.str s)
  | lst e a => exact .base (.lst e)
  | tup e a => exact .base (.tup e)
def fIsi (g : PyData → Bool) (f : FM) : FM := fun ρ => (f ρ).map fun x => .bool (g x)
section
variable {X : Cx} {e eT : Expr} {te : TE} {f : FM} {p pos : Pos} {T : String} {gd : PyData → Bool}
theorem fe_isi (gk : ∀ x, kitB (tyD x) T = some (gd x)) (h : FE X e te f) (hT : PE X eT (tC (.ty T))) (hp : PA X [e, eT] (tCons te (tCons (tC (.ty T)) tNil)) → PE X (.Call (.Name "isinstance" p) [e, eT] [] pos) (tCB (rIsi X.K) (tCons te (tCons (tC (.ty T)) tNil))))
    (hs : starEach (e :: [eT]) X.env = (false, eval e X.env) :: starEach [eT] X.env := by rfl) (hs2 : starEach [eT] X.env = (false, eval eT X.env) :: starEach [] X.env := by rfl) :
    FE X (.Call (.Name "isinstance" p) [e, eT] [] pos) (tCB (rIsi X.K) (tCons te (tCons (tC (.ty T)) tNil))) (fIsi gd f) := by
  refine ⟨hp (pa_cons h.pe (pa_cons hT pa_nil hs2) hs), fun m ρ Φ hp σ G H s he Q q => ?_⟩
  obtain ⟨z, hz, hΦ⟩ := hp
  obtain ⟨x, hx, e⟩ := Option.map_eq_some_iff.mp hz
  subst e
  refine h.snd m ρ (fun t => t = x) ⟨x, hx, rfl⟩ σ G H s he _ fun x' v G1 H1 ex w1 d1 => ?_
  subst ex
  exact ⟨v, _, _, _, gd x', rfl, .ty T, (d1.up w1.st.ex).ty, kit_ty (gk x'), q _ _ G1 H1 hΦ w1 (.bl _)⟩
/-- list(range(n)) -/
def fLstRg (f : FM) : FM := fun ρ => ((f ρ).bind asI).bind fun i => if 0 ≤ i ∧ i ≤ 16777216 then some (.list (rangeD 0 i)) else none
theorem rgV_dd {G : Hp} (i : Int) : DdAll G (rgV 0 i) (rangeD 0 i) := by
  unfold rgV rangeD
  generalize List.range (i - 0).toNat = l
  induction l with
  | nil => exact .nil
  | cons n r ih => exact .cons (.int _) ih
theorem fe_listRg {p2 pos2 : Pos} (hc : X.calm = true) (hg : Gl X "list") (hm : X.mg "list" = none) (hg2 : Gl X "range") (hm2 : X.mg "range" = none) (h : FE X e te f)
    (na : starEach [e] X.env = (false, eval e X.env) :: starEach [] X.env := by rfl) (nb : starEach [.Call (.Name "range" p2) [e] [] pos2] X.env = (false, eval (.Call (.Name "range" p2) [e] [] pos2) X.env) :: starEach [] X.env := by rfl) :
    FE X (.Call (.Name "list" p) [.Call (.Name "range" p2) [e] [] pos2] [] pos) (tLstRg (tRg1 te)) (fLstRg f) := by
  refine ⟨pe_listRg hc hg hm (prg_1 hg2 hm2 h.pe na) nb, fun m ρ Φ hp σ G H s he Q q => ?_⟩
  obtain ⟨z, hz, hΦ⟩ := hp
  obtain ⟨i, hi, hz⟩ := of_bind hz
  obtain ⟨x, hx, hi⟩ := of_bind hi
  have hr : 0 ≤ i ∧ i ≤ 16777216 := by
    split at hz
    · assumption
    · cases hz
  rw [if_pos hr] at hz
  cases hz
  refine h.snd m ρ (fun t => t = x) ⟨x, hx, rfl⟩ σ G H s he _ fun x' v G1 H1 ex w1 d1 => ?_
  subst ex
  rw [asI_of hi] at d1
  cases d1
  exact ⟨i, rfl, RgOk.of_le (by omega) hr.2 (by omega) hr.1, fun l hl => q _ _ _ _ hΦ (w1.trans (Grow.new w1.st hl)) (.lst upd_same (rgV_dd i))⟩
end
end DL
/-! DL6: tuple * int where the int is 0, and the joint rule of products. -/
namespace L2
open PySem PySem.Spec PyProof.Rows
theorem tuple_mul0 (l : Addr) (items : Array Value) (n : Nat) (dd : Option Addr) (sl : Array (Option Value)) (x : Int) (u : Tok) (c0 : (decide (x < -(2 ^ 63)) || decide (x ≥ 2 ^ 63)) = false) (c1 : (items.isEmpty || x == 1) = false) (c2 : (decide (x ≤ 0) || items.isEmpty) = true) :
    Meets (Builtin.«tuple.__mul__» ⟨[.ref l, .int x u], []⟩) (fun _ R s => s.heap.get? l = some { cls := .type "tuple", dict := dd, data := .seq items n, slots := sl } ∧
      R (.ok (.ret (Value.ref s.heap.objs.size))) { s with heap := s.heap.push { cls := Value.type "tuple", data := Data.seq #[] }, toks := s.toks }) :=
  .of_wp fun prog w A R s h => by
    obtain ⟨hp, g, d, tk, os⟩ := s
    obtain ⟨hl, h⟩ := h
    have f1 := AutoSeq1.idx_int
    wp_walk using wpAny_loadPart' hl
    repeat (first
      | (refine wpAny_ite_false (decide_eq_false (by rw [c0]; exact Bool.false_ne_true)) ?_; wp_walk using wpAny_loadPart' hl)
      | (refine wpAny_ite_false (decide_eq_false (by rw [c1]; exact Bool.false_ne_true)) ?_; wp_walk using wpAny_loadPart' hl)
      | (refine wpAny_ite_true (decide_eq_true (by rw [c2])) ?_; wp_walk using wpAny_loadPart' hl))
    exact ⟨_, rfl, h⟩
def rRep0 (K : PySem.W.Frag) : R2 := fun x y H Q => ∃ l xs, x = .ref l ∧ y = .int 0 ∧ SqT K H l xs ∧ xs ≠ [] ∧ ∀ p, H p = none → Q (.ref p) (upd H p (.tup []))
section
variable {X : Cx}
theorem op_rep0 : OpR X (binaryOp .Mult) (rRep0 X.K) := by
  intro pins s σ H x y v u Q I rx ry h
  obtain ⟨l, xs, rfl, rfl, hT, hne, q⟩ := h
  cases rx
  obtain ⟨t, rfl⟩ := ry
  obtain ⟨its, r, ⟨⟨cls, dd, data, sl⟩, ho, hc, n, hd⟩, hs⟩ := I.tuple hT
  simp only at hc hd
  subst hc hd
  have hle : its.length = xs.length := r.length.symm
  have hn : its ≠ [] := fun e => hne (by
    rw [e] at hle
    exact List.eq_nil_of_length_eq_zero hle.symm)
  have hi : its.toArray.isEmpty = false := by
    cases its with
    | nil => exact absurd rfl hn
    | cons a b => rfl
  have c0 : (decide ((0 : Int) < -(2 ^ 63)) || decide ((0 : Int) ≥ 2 ^ 63)) = false := by decide
  have c1 : (its.toArray.isEmpty || (0 : Int) == 1) = false := by
    rw [hi]
    decide
  have c2 : (decide ((0 : Int) ≤ 0) || its.toArray.isEmpty) = true := by
    rw [hi]
    decide
  refine wpAny_binaryOp_repeat_ref (T := "tuple") (U := "int") (by decide) ⟨_, ho, rfl⟩ (fun s' => typeIs_int s' 0 t) noFill_tuple_mul F.fills_int_mul F.slot_int_rmul repeat_tuple F.slot_int_index.lookup
    (call_meets F.slot_int_rmul (typeIs_int s 0 t) F.entry_int_rmul (F.args_int_rmul_2 _ _) (int_rmul_tuple 0 t l its.toArray n dd sl)
      ⟨ho, rfl, ⟨_, ho, rfl⟩, call_meets F.slot_tuple_mul ⟨_, ho, rfl⟩ F.entry_tuple_mul (F.args_tuple_mul_2 _ _) (tuple_mul0 l its.toArray n dd sl 0 t c0 c1 c2) ⟨ho, ?_⟩⟩)
  refine ⟨.ref s.heap.objs.size, _, I.laid (t' := s.toks) (o := .tup []) (fun b ob q => Heap.get?_push_of_some _ q) (Nat.le_refl _) ?_, rfl, q _ (I.hok.fresh (Nat.le_refl _))⟩
  exact ⟨Nat.zero_le _, [], .nil, IsTup.new _ _⟩
end
end L2
namespace DL
open PySem L2
open Evl (Ex)
def isZ1 : List PyData → Bool
  | [.int i] => decide (i = 0)
  | _ => false
theorem isZ1_of {xs : List PyData} (h : isZ1 xs = true) : xs = [.int 0] := by
  unfold isZ1 at h
  split at h
  · rw [of_decide_eq_true h]
  · cases h
def mulA : PyData → PyData → Option PyData
  | .int i, .int j => if -(2 ^ 64) < i ∧ i < 2 ^ 64 then some (.int (i * j)) else none
  | .tuple xs, .int k => if isZ1 xs = true ∧ 0 ≤ k ∧ k ≠ 1 ∧ k ≤ 1000 then some (.tuple (List.replicate k.toNat (.int 0))) else none
  | _, _ => none
abbrev rMulA (K : PySem.W.Frag) : R2 := fun x y H Q => rI CMul (fun i j => .int (i * j)) x y H Q ∨ rRepT K x y H Q ∨ rRep0 K x y H Q
theorem op_mulA {X : Cx} : OpR X (binaryOp .Mult) (rMulA X.K) := op_mul.or (op_repT.or op_rep0)
theorem flat_one {α : Type} (x : α) : ∀ n : Nat, (List.replicate n [x]).flatten = List.replicate n x
  | 0 => rfl
  | n + 1 => by
    rw [List.replicate_succ, List.replicate_succ, List.flatten_cons, flat_one x n]
    rfl
theorem dd_rep {G : Hp} {v : V} {x : PyData} (h : Dd G v x) : ∀ n : Nat, DdAll G (List.replicate n v) (List.replicate n x)
  | 0 => .nil
  | n + 1 => .cons h (dd_rep h n)
theorem sr_mulA {K : PySem.W.Frag} : SndR (rMulA K) mulA := by
  intro x y z h m v w G H s dx dy Q q
  unfold mulA at h
  split at h
  · split at h
    · rename_i hc
      cases dx; cases dy; cases h
      exact .inl ⟨_, _, rfl, rfl, .inl hc, q _ G H (Grow.refl s) (.int _)⟩
    · cases h
  · split at h
    · rename_i xs k hc
      obtain ⟨h1, h2, h3, h4⟩ := hc
      rw [isZ1_of h1] at dx
      cases h
      cases dy
      cases dx with
      | tup e a =>
        cases a with
        | cons a1 a2 =>
          cases a2
          cases a1
          by_cases hk : k = 0
          · subst hk
            exact .inr (.inr ⟨_, _, rfl, rfl, SqT.of (s.ex _ _ e), (fun z => nomatch z), fun p hp => q _ _ _ (Grow.new s hp) (.tup upd_same .nil)⟩)
          · refine .inr (.inl ⟨_, _, _, rfl, rfl, SqT.of (s.ex _ _ e), (fun z => nomatch z), by omega, h4, by show 1 ≤ 1000; decide, fun p hp => q _ _ _ (Grow.new s hp) (.tup upd_same ?_)⟩)
            rw [flat_one]
            exact dd_rep (.int 0) _
    · cases h
  · cases h
end DL
/-! DL7: enumerate(tuple); short words for the printed texts; sorting of rows as data. -/
namespace L2
open PySem PySem.Spec PyProof.Rows
open AutoSeq1 (wpAny_loadPart')
theorem meets_enumerate_newT (l : Addr) (items : Array Value) (n : Nat) (dct : Option Addr) (sl : Array (Option Value)) :
    Meets (Builtin.«enumerate.__new__» ⟨[.type "enumerate", .ref l], []⟩) (fun _ R s => s.heap.get? l = some { cls := .type "tuple", dict := dct, data := .seq items n, slots := sl } ∧
      R (.ok (.ret (.ref (s.heap.push { cls := .type "tuple_iterator", data := .fields #[.ref l, .int 0 0] }).objs.size)))
        { s with heap := (s.heap.push { cls := .type "tuple_iterator", data := .fields #[.ref l, .int 0 0] }).push { cls := .type "enumerate", data := .fields #[.none, .bool false, .ref s.heap.objs.size, rawInt 0, .none, .none] } }) :=
  .of_wp fun prog w A R s h => by
    obtain ⟨hp, g, d, tk, os⟩ := s; obtain ⟨hl, h⟩ := h
    have hsub := sub_enumerate
    have hL : Heap.IsTuple (Shared.heap ⟨hp, g, d, tk, os⟩) l items := ⟨_, hl, rfl, n, rfl⟩
    wp_walk using wpAny_loadPart' hl
    refine wpAny_stack_any fun st => wpAny_pure ?_
    split
    · rename_i c _ _ _ _ _
      cases (c == Value.type "enumerate")
      · wp_walk using wpAny_loadPart' hl, wpAny_pyIter_tuple hL
        exact ⟨_, rfl, h⟩
      · wp_walk using wpAny_loadPart' hl, wpAny_pyIter_tuple hL
        exact ⟨_, rfl, h⟩
    · wp_walk using wpAny_loadPart' hl, wpAny_pyIter_tuple hL
      exact ⟨_, rfl, h⟩
section
variable {prog : Program} {w : World} {A : Around} {E : Value → Shared → Prop} {s : Shared}
theorem call_enumerate_tuple {l : Addr} {items : Array Value} {Q : Value → Shared → Prop} (hL : s.heap.IsTuple l items)
    (h : ∀ h', IsEnum h' (s.heap.objs.size + 1) s.heap.objs.size 0 .none → h'.IsTupleIter s.heap.objs.size l 0 → h'.objs.size = s.heap.objs.size + 2 →
      (∀ b o, s.heap.get? b = some o → h'.get? b = some o) → Q (.ref (s.heap.objs.size + 1)) { s with heap := h' }) :
    wpAny (model prog w) A (call (.type "enumerate") [.ref l]) Q E s := by
  obtain ⟨⟨c, dct, dt, sl⟩, hl, hc, n, hd⟩ := hL
  replace hc : c = .type "tuple" := hc
  replace hd : dt = .seq items n := hd
  subst hc hd
  refine callType_new F.called_enumerate (by decide) (F.typeCall_enumerate_1 _) (F.newCall_enumerate_1 _) (fun obj => F.args_object_init_2 obj _) F.entry_enumerate_new
    (meets_enumerate_newT l items n dct sl) ⟨hl, ?_⟩
  have hz : (s.heap.push { cls := .type "tuple_iterator", data := .fields #[.ref l, .int 0 0] }).objs.size = s.heap.objs.size + 1 := Heap.size_push ..
  show _ ∧ _
  rw [hz]
  have he : IsEnum ((s.heap.push { cls := .type "tuple_iterator", data := .fields #[.ref l, .int 0 0] }).push
      { cls := .type "enumerate", data := .fields #[.none, .bool false, .ref s.heap.objs.size, rawInt 0, .none, .none] }) (s.heap.objs.size + 1) s.heap.objs.size 0 .none := by
    have := Heap.get?_push_size (s.heap.push { cls := .type "tuple_iterator", data := .fields #[.ref l, .int 0 0] })
      (o := { cls := .type "enumerate", data := .fields #[.none, .bool false, .ref s.heap.objs.size, rawInt 0, .none, .none] }) rfl
    rw [hz] at this; exact this
  refine ⟨⟨_, he, rfl⟩, h _ he ⟨_, Heap.get?_push_of_some _ (Heap.get?_push_size _ rfl), rfl, rfl⟩ (by rw [Heap.size_push, hz]) fun b o x => Heap.get?_push_of_some _ (Heap.get?_push_of_some _ x)⟩
end
def IteT (K : PySem.W.Frag) (a : Addr) : It :=
  ⟨fun i H => ∃ (xs : List V) (x : V), SqT K H a xs ∧ xs[i]? = some x, fun i H v H' => ∃ T x, v = .ref T ∧ H T = none ∧ H' = upd H T (.tup [.int (i : Nat), x]) ∧ ∀ xs, SqT K H a xs → xs[i]? = some x, fun i H => ∃ xs : List V, SqT K H a xs ∧ xs.length = i⟩
theorem turn_enumT {P : Program} {w : World} {K : PySem.W.Frag} {elts : List Expr} {kk : Nat} {tpos : Pos} (a e it : Addr) (hat : a ≠ it) (hae : a ≠ e) :
    Turn P w K (.Tuple elts kk tpos) (IteT K a) [e, it] e (fun i h => (∃ old, IsEnum h e it ((i : Nat) : Int) old) ∧ h.IsTupleIter it a i ∧ e ≠ it) where
  mem := by simp
  obj := fun i h st b hb => by
    obtain ⟨⟨old, he⟩, ⟨o, ho, hc, hd⟩, _⟩ := st
    have e' : b = e ∨ b = it := by simpa using hb
    rcases e' with z | z
    · rw [z]; exact ⟨_, he, fun v q => nomatch q⟩
    · rw [z]; exact ⟨o, ho, fun v q => by rw [hd] at q; cases q⟩
  keep := fun i h h' st k => let ⟨⟨old, he⟩, hi, hne⟩ := st; ⟨⟨old, k e (by simp) _ he⟩, hi.at fun o q => k it (by simp) o q, hne⟩
  item := by
    intro X hP hw hK hc i pins s σ H E I hf st hg
    subst hP hw hK
    obtain ⟨⟨old, he⟩, hit, hne⟩ := st
    obtain ⟨xs, x, hq, hx⟩ := hg
    obtain ⟨its, rv, p, hz⟩ := I.tuple hq
    obtain ⟨u, hu, ru⟩ := rv.get hx
    have hel : e < s.heap.objs.size := Heap.lt_size he
    have hil : it < s.heap.objs.size := by obtain ⟨_, q, _⟩ := hit; exact Heap.lt_size q
    have hsz : i < its.toArray.size := by
      rw [List.size_toArray]
      exact (List.getElem?_eq_some_iff.mp hu).1
    refine wpAny_pyNext_enum_itemD (Draws.tuple (A := X.A.in1) (I.ok.hd hc) it a hat its.toArray) he ⟨hit, show s.heap.IsTuple a its.toArray from p⟩ hsz hne (by simp [hne, Ne.symm hae]) fun u' h' tk hu' ho hst hT hsz' hk => ?_
    have eu : u' = u := by
      have h1 : its[i]? = some u' := by simpa using hu'
      rw [hu] at h1
      exact (Option.some.inj h1).symm
    subst eu
    refine ⟨_, rfl, wpAny_letOwnedTupleGo_enum (s := { s with heap := h', toks := tk + 1 }) ho fun h'' he' sb => ?_⟩
    have hT2 : h''.get? s.heap.objs.size = some { cls := .type "tuple", data := .seq #[.int i tk, u'] } := (sb.2 _ (Nat.ne_of_gt hel)).trans hT
    have new : ObjOk X.prog X.w (upd H s.heap.objs.size (.tup [.int (i : Nat), x])) h'' s.heap.objs.size (.tup [.int (i : Nat), x]) :=
      ⟨by show 2 ≤ sizeLine; decide, [.int i tk, u'], .cons ⟨_, rfl⟩ (.cons ru .nil), ⟨_, hT2, rfl, _, rfl⟩⟩
    have I1 : Inv X pins σ (upd H s.heap.objs.size (.tup [.int (i : Nat), x])) { s with heap := h'', toks := tk + 1 } :=
      I.turnedNew (ch := [e, it]) (fun b ob hb q => (sb.2 b (fun z => hb (by simp [z]))).trans (hk b ob (fun z => hb (by simp [z])) (fun z => hb (by simp [z])) q)) hf (Nat.le_refl _) new
    refine ⟨.ref s.heap.objs.size, _, I1, rfl, ⟨_, x, rfl, I.hok.fresh (Nat.le_refl _), rfl, fun ys hy => by rw [I.tuple_inj hy hq]; exact hx⟩, ⟨⟨u', ?_⟩, hst.1.at fun o q => (sb.2 it (Ne.symm hne)).trans q, hne⟩, fun b hb => ?_⟩
    · have e1 : ((i + 1 : Nat) : Int) = (i : Int) + 1 := by omega
      rw [e1]; exact he'
    · have hb' : b < s.heap.objs.size := by
        have e' : b = e ∨ b = it := by simpa using hb
        rcases e' with z | z
        · rw [z]; exact hel
        · rw [z]; exact hil
      rw [upd_ne (Nat.ne_of_lt hb')]
      exact (hf b hb).1
  done := by
    intro X hP hw hK hc i pins s σ H E I hf st hg
    subst hP hw hK
    obtain ⟨⟨old, he⟩, hit, hne⟩ := st
    obtain ⟨xs, hq, hx⟩ := hg
    obtain ⟨its, rv, p, hz⟩ := I.tuple hq
    obtain ⟨f0, f1, f2, f3, f4, f5⟩ := hf it (by simp)
    have hl := rv.length
    have hn : its.toArray.size = i := by rw [List.size_toArray]; omega
    exact wpAny_pyNext_enum_endD (Draws.tuple (A := X.A.in1) (I.ok.hd hc) it a hat its.toArray) he ⟨by rw [hn]; exact hit, show s.heap.IsTuple a its.toArray from p⟩ fun h' eb => ⟨rfl, I.turned (t' := s.toks) (fun b o hb q => eb b o hb q) f0 f1 f3 f4 f5⟩
  self := fun A i s Q E st h => let ⟨⟨_, he⟩, _⟩ := st; wpAny_pyIter_enum he h
def iEnumT (K : PySem.W.Frag) (ta : TA) : TI := fun σ H R => ta σ H fun vs H1 => ∃ a xs, vs = [.ref a] ∧ SqT K H1 a xs ∧ R (IteT K a) H1
theorem pi_enumT {X : Cx} {e : Expr} {ta : TA} {p pos tpos : Pos} {elts : List Expr} {kk : Nat} (hg : Gl X "enumerate") (hm : X.mg "enumerate" = none) (ha : PA X [e] ta) (hs : starEach [e] X.env = (false, eval e X.env) :: starEach [] X.env := by rfl) :
    PI X (.Tuple elts kk tpos) (.Call (.Name "enumerate" p) [e] [] pos) (iEnumT X.K ta) := by
  refine ⟨fun pins s σ H R I h => ?_⟩
  refine Call_ (ld_blt I hg hm boot_enumerate (PyProof.Rows.callWith_type1 (thn (ha.run pos pins s σ H _ I h) fun us s1 ⟨vs, H1, I1, r1, q1⟩ => ?_) hs rfl))
  obtain ⟨a, xs, ex, hq, q⟩ := q1
  subst ex
  cases r1 with
  | cons r rr =>
    cases rr
    cases r
    obtain ⟨its, rv, p', hz⟩ := I1.tuple hq
    have hal : a < s1.heap.objs.size := p'.lt
    refine call_enumerate_tuple (show s1.heap.IsTuple a its.toArray from p') fun h' he hit hsz hk => wpAny_pyIter_enum he ?_
    have I2 : Inv X pins σ H1 { s1 with heap := h' } := I1.kept (t' := s1.toks) hk
    refine ⟨s1.heap.objs.size + 1, [s1.heap.objs.size + 1, s1.heap.objs.size], _, _, H1, rfl, I2, turn_enumT a (s1.heap.objs.size + 1) s1.heap.objs.size (Nat.ne_of_lt hal) (Nat.ne_of_lt (Nat.lt_succ_of_lt hal)), ⟨⟨.none, he⟩, hit, Nat.succ_ne_self _⟩, fun b hb => ?_, q⟩
    have e' : b = s1.heap.objs.size + 1 ∨ b = s1.heap.objs.size := by simpa using hb
    have hle : s1.heap.objs.size ≤ b := by
      rcases e' with z | z
      · rw [z]; exact Nat.le_add_right _ _
      · rw [z]; exact Nat.le_refl _
    exact I1.fpOk hle (I1.hok.fresh hle)
end L2
namespace DL
open PySem L2
open Evl (Ex)
def enumD (xs : List PyData) : List PyData := xs.zipIdx.map fun p => .tuple [.int (p.2 : Nat), p.1]
def fEnum (f : FM) : FAa := fun ρ => ((f ρ).bind asT).map enumD
theorem walkD_enumT {m : Option Addr} {G : Hp} {K : PySem.W.Frag} {a : Addr} {xs : List V} {ds : List PyData} (e : G a = some (.tup xs)) (d : DdAll G xs ds) : WalkD m (IteT K a) G (enumD ds) := by
  have hl : (enumD ds).length = ds.length := by unfold enumD; rw [List.length_map, List.length_zipIdx]
  refine ⟨fun i G1 H1 hi g s => ?_, fun G1 H1 g s => ⟨xs, SqT.of (s.ex _ _ (g _ _ e)), by rw [hl, d.len]⟩, fun i x G1 H1 v H' hx g s y => ?_⟩
  · rw [hl] at hi
    obtain ⟨v, h1, _⟩ := d.get (List.getElem?_eq_getElem hi)
    exact ⟨xs, v, SqT.of (s.ex _ _ (g _ _ e)), h1⟩
  · obtain ⟨T, v1, rfl, hT, rfl, y1⟩ := y
    unfold enumD at hx
    rw [List.getElem?_map] at hx
    obtain ⟨p, hp, rfl⟩ := Option.map_eq_some_iff.mp hx
    rw [List.getElem?_zipIdx] at hp
    obtain ⟨d1, h1, rfl⟩ := Option.map_eq_some_iff.mp hp
    obtain ⟨w1, k1, l1⟩ := d.get h1
    have z1 := y1 xs (SqT.of (s.ex _ _ (g _ _ e)))
    rw [k1] at z1
    cases z1
    refine ⟨_, Grow.new s hT, .tup upd_same (.cons ?_ (.cons ((l1.up g).up (Grow.new s hT).g) .nil))⟩
    show Dd _ (V.int (i : Nat)) (PyData.int ((0 + i : Nat) : Int))
    rw [Nat.zero_add]
    exact .int _
section
variable {X : Cx} {tg e : Expr} {te : TE} {f : FM} {pos pos2 : Pos} {elts : List Expr} {kk : Nat} {tpos : Pos}
theorem fi_enum (hg : Gl X "enumerate") (hm : X.mg "enumerate" = none) (h : FE X e te f) (hs : starEach [e] X.env = (false, eval e X.env) :: starEach [] X.env := by rfl) :
    FI X (.Tuple elts kk tpos) (.Call (.Name "enumerate" pos) [e] [] pos2) (iEnumT X.K (tCons te tNil)) (fEnum f) := by
  refine ⟨pi_enumT hg hm (pa_cons h.pe pa_nil hs) hs, fun m ρ Φ hp σ G H s he R k => ?_⟩
  obtain ⟨z, hz, hΦ⟩ := hp
  obtain ⟨xs, hxs, e⟩ := Option.map_eq_some_iff.mp hz
  obtain ⟨x, hx, hxs⟩ := of_bind hxs
  subst e
  refine h.snd m ρ (fun t => t = x) ⟨x, hx, rfl⟩ σ G H s he _ fun x' v G1 H1 ex w1 d1 => ?_
  rw [ex, asT_of hxs] at d1
  cases d1 with
  | tup e1 a1 => exact ⟨_, _, rfl, SqT.of (w1.st.ex _ _ e1), k _ _ _ _ hΦ w1 (walkD_enumT e1 a1)⟩
end
/-! ### short words -/
section
variable {X : Cx} {pos : Pos}
theorem mgs_consX {e : Expr} {es : List Expr} {g : TG} {gs : TGs} {p : PGd} {ps : PGds} {ts us : List Nat} (h1 : MG X e g p ts) (h2 : MGs X es gs ps us) (h : PG X e g → PGs X es gs → PGs X (e :: es) (gCons g gs)) : MGs X (e :: es) (gCons g gs) (pgCons p ps) (ts ++ us) := mgs_cons h1 h2 (h h1.tp h2.tp)
theorem mg_tupX {K : PySem.W.Frag} {es : List Expr} {k n : Nat} {gs : TGs} {ps : PGds} {ts : List Nat} (h : MGs X es gs ps ts) (hn : NLen ps n) (hp : PGs X es gs → PG X (.Tuple es k pos) (gTup K n gs)) : MG X (.Tuple es k pos) (gTup K n gs) (pgTup ps) ts := by
  refine ⟨hp h.tp, fun m d ρ ρ' e v σ G H s he dv Q q => ?_⟩
  obtain ⟨xs, hx, e⟩ := of_bind e
  rw [asT_of hx] at dv
  cases dv with
  | tup e1 a1 => exact ⟨_, _, rfl, SqT.of (s.ex _ _ e1), by rw [a1.len]; exact hn _ _ _ e, h.snd m _ ρ ρ' e _ σ G H s he a1 Q q⟩
theorem fi_listK {K : PySem.W.Frag} {tg e : Expr} {te : TE} {f : FM} (h : FE X e te f) (hp : PE X e te → PI X tg e (iList K te)) : FI X tg e (iList K te) (fItL f) := by
  refine ⟨hp h.pe, fun m ρ Φ hp σ G H s he R k => ?_⟩
  obtain ⟨z, hz, hΦ⟩ := hp
  obtain ⟨x, hx, hz⟩ := of_bind hz
  refine h.snd m ρ (fun t => t = x) ⟨x, hx, rfl⟩ σ G H s he _ fun x' v G1 H1 ex w1 d1 => ?_
  rw [ex, asL_of hz] at d1
  cases d1 with
  | lst e1 a1 => exact ⟨_, rfl, ⟨_, SqL.of (w1.st.ex _ _ e1)⟩, k _ _ _ _ hΦ w1 (walkD_list e1 a1)⟩
theorem fi_tupK {K : PySem.W.Frag} {tg e : Expr} {te : TE} {f : FM} (h : FE X e te f) (hp : PE X e te → PI X tg e (iTup K te)) : FI X tg e (iTup K te) (fItT f) := by
  refine ⟨hp h.pe, fun m ρ Φ hp σ G H s he R k => ?_⟩
  obtain ⟨z, hz, hΦ⟩ := hp
  obtain ⟨x, hx, hz⟩ := of_bind hz
  refine h.snd m ρ (fun t => t = x) ⟨x, hx, rfl⟩ σ G H s he _ fun x' v G1 H1 ex w1 d1 => ?_
  rw [ex, asT_of hz] at d1
  cases d1 with
  | tup e1 a1 => exact ⟨_, rfl, ⟨_, SqT.of (w1.st.ex _ _ e1)⟩, k _ _ _ _ hΦ w1 (walkD_tup e1 a1)⟩
theorem fs_exprX {e : Expr} {te : TE} {fe : FM} (h1 : FE X e te fe) (h : PE X e te → PS X (.Expr e pos) (tDrop te)) : FS X (.Expr e pos) (tDrop te) (fDrop fe) := fs_expr h1 (h h1.pe)
theorem ft_valc {e : Expr} {te : TE} {f : FM} (h : FE X e te f) (he : PE X e te → PT X e (tB te)) : FT X e (tB te) (fTest f) := ft_val h (he h.pe)
theorem mt_valc {e : Expr} {te : TE} {p : PM} (h : ME X e te p) (he : PE X e te → PT X e (tB te)) : MT X e (tB te) (pTest p) := mt_val h (he h.pe)
end
/-! ### rows of pairs of ints as data, sorted -/
abbrev Chg := Int × Int
def chgD (c : Chg) : PyData := .tuple [.int c.1, .int c.2]
def rowD (r : List Chg) : PyData := .tuple (r.map chgD)
def chgOf : PyData → Option Chg
  | .tuple [.int a, .int b] => some (a, b)
  | _ => none
def chgsOf : List PyData → Option (List Chg)
  | [] => some []
  | x :: r => (chgOf x).bind fun c => (chgsOf r).map fun cs => c :: cs
def rowOf : PyData → Option (List Chg)
  | .tuple xs => chgsOf xs
  | _ => none
def rowsOf : List PyData → Option (List (List Chg))
  | [] => some []
  | x :: r => (rowOf x).bind fun c => (rowsOf r).map fun cs => c :: cs
theorem chgOf_eq {x : PyData} {c : Chg} (h : chgOf x = some c) : x = chgD c := by
  unfold chgOf at h
  split at h
  · cases h; rfl
  · cases h
theorem chgsOf_eq : ∀ {xs : List PyData} {cs : List Chg}, chgsOf xs = some cs → xs = cs.map chgD
  | [], cs, h => by cases h; rfl
  | x :: r, cs, h => by
    obtain ⟨c, hc, h⟩ := of_bind h
    obtain ⟨ds, hd, e⟩ := Option.map_eq_some_iff.mp h
    subst e
    rw [chgOf_eq hc, chgsOf_eq hd] <;> rfl
theorem rowOf_eq {x : PyData} {c : List Chg} (h : rowOf x = some c) : x = rowD c := by
  unfold rowOf at h
  split at h
  · rw [chgsOf_eq h] <;> rfl
  · cases h
theorem rowsOf_eq : ∀ {xs : List PyData} {cs : List (List Chg)}, rowsOf xs = some cs → xs = cs.map rowD
  | [], cs, h => by cases h; rfl
  | x :: r, cs, h => by
    obtain ⟨c, hc, h⟩ := of_bind h
    obtain ⟨ds, hd, e⟩ := Option.map_eq_some_iff.mp h
    subst e
    rw [rowOf_eq hc, rowsOf_eq hd] <;> rfl
theorem chgOf_chgD (c : Chg) : chgOf (chgD c) = some c := rfl
theorem chgsOf_map : ∀ (cs : List Chg), chgsOf (cs.map chgD) = some cs
  | [] => rfl
  | c :: cs => by
    show (chgOf (chgD c)).bind _ = _
    rw [chgOf_chgD, Option.bind_some, chgsOf_map cs] <;> rfl
theorem rowOf_rowD (r : List Chg) : rowOf (rowD r) = some r := chgsOf_map r
theorem rowsOf_map : ∀ (cs : List (List Chg)), rowsOf (cs.map rowD) = some cs
  | [] => rfl
  | c :: cs => by
    show (rowOf (rowD c)).bind _ = _
    rw [rowOf_rowD, Option.bind_some, rowsOf_map cs] <;> rfl
def chgLt (a b : Chg) : Bool := if a.1 = b.1 then decide (a.2 < b.2) else decide (a.1 < b.1)
def rowLt : List Chg → List Chg → Bool
  | [], [] => false
  | [], _ :: _ => true
  | _ :: _, [] => false
  | a :: as, b :: bs => if a = b then rowLt as bs else chgLt a b
def insR (x : List Chg) : List (List Chg) → List (List Chg)
  | [] => [x]
  | y :: ys => if rowLt y x = true then y :: insR x ys else x :: y :: ys
def sortR : List (List Chg) → List (List Chg)
  | [] => []
  | x :: xs => insR x (sortR xs)
/-- sorted(xs), xs a list of rows: one alone, or all with something in them -/
def sortF : List PyData → Option PyData
  | [.list xs] => (rowsOf xs).bind fun rs => if xs.length ≤ cap ∧ (xs.length ≤ 1 ∨ rs.all (fun r => !r.isEmpty) = true) then some (.list ((sortR rs).map rowD)) else none
  | _ => none
end DL
/-! DL8: sorted(xs), xs a list of rows of pairs of ints. -/
namespace DL
open PySem L2
open Evl (Ex)
/-! ### the order -/
theorem chgLt_iff {a b : Chg} : chgLt a b = true ↔ a.1 < b.1 ∨ (a.1 = b.1 ∧ a.2 < b.2) := by
  unfold chgLt
  by_cases e : a.1 = b.1
  · rw [if_pos e, decide_eq_true_eq]
    omega
  · rw [if_neg e, decide_eq_true_eq]
    omega
theorem chgLt_no {a b : Chg} : chgLt a b = false ↔ ¬ (a.1 < b.1 ∨ (a.1 = b.1 ∧ a.2 < b.2)) := by
  rw [← chgLt_iff]
  cases chgLt a b <;> simp
theorem chg_tot {a b : Chg} (h1 : chgLt a b = false) (h2 : chgLt b a = false) : a = b := by
  have q1 := chgLt_no.mp h1
  have q2 := chgLt_no.mp h2
  have e1 : a.1 = b.1 := by omega
  have e2 : a.2 = b.2 := by omega
  exact Prod.ext e1 e2
theorem chg_asym {a b : Chg} (h : chgLt a b = true) : chgLt b a = false := by
  have q := chgLt_iff.mp h
  exact chgLt_no.mpr (by omega)
theorem chg_trans {a b c : Chg} (h1 : chgLt a b = true) (h2 : chgLt b c = true) : chgLt a c = true := by
  have q1 := chgLt_iff.mp h1
  have q2 := chgLt_iff.mp h2
  exact chgLt_iff.mpr (by omega)
theorem row_irr : ∀ r : List Chg, rowLt r r = false
  | [] => rfl
  | a :: r => by
    show (if a = a then rowLt r r else chgLt a a) = false
    rw [if_pos rfl, row_irr r]
theorem row_tot : ∀ {r q : List Chg}, rowLt r q = false → rowLt q r = false → r = q
  | [], [], _, _ => rfl
  | [], _ :: _, h, _ => by cases h
  | _ :: _, [], _, h => by cases h
  | a :: r, b :: q, h1, h2 => by
    have h1' : (if a = b then rowLt r q else chgLt a b) = false := h1
    have h2' : (if b = a then rowLt q r else chgLt b a) = false := h2
    by_cases e : a = b
    · subst e
      rw [if_pos rfl] at h1' h2'
      rw [row_tot h1' h2']
    · rw [if_neg e] at h1'
      rw [if_neg (fun z => e z.symm)] at h2'
      exact absurd (chg_tot h1' h2') e
theorem row_asym : ∀ {r q : List Chg}, rowLt r q = true → rowLt q r = false
  | [], [], h => by cases h
  | [], _ :: _, _ => rfl
  | _ :: _, [], h => by cases h
  | a :: r, b :: q, h => by
    have h' : (if a = b then rowLt r q else chgLt a b) = true := h
    show (if b = a then rowLt q r else chgLt b a) = false
    by_cases e : a = b
    · subst e
      rw [if_pos rfl] at h' ⊢
      exact row_asym h'
    · rw [if_neg e] at h'
      rw [if_neg (fun z => e z.symm)]
      exact chg_asym h'
theorem row_trans : ∀ {r q p : List Chg}, rowLt r q = true → rowLt q p = true → rowLt r p = true
  | [], _, [], _, h => by
    rename_i q _
    cases q <;> cases h
  | [], _, _ :: _, _, _ => rfl
  | _ :: _, [], _, h, _ => by cases h
  | _ :: _, _ :: _, [], _, h => by cases h
  | a :: r, b :: q, c :: p, h1, h2 => by
    have h1' : (if a = b then rowLt r q else chgLt a b) = true := h1
    have h2' : (if b = c then rowLt q p else chgLt b c) = true := h2
    show (if a = c then rowLt r p else chgLt a c) = true
    by_cases e1 : a = b
    · subst e1
      rw [if_pos rfl] at h1'
      by_cases e2 : a = c
      · subst e2
        rw [if_pos rfl] at h2' ⊢
        exact row_trans h1' h2'
      · rw [if_neg e2] at h2' ⊢
        exact h2'
    · rw [if_neg e1] at h1'
      by_cases e2 : b = c
      · subst e2
        rw [if_neg e1]
        exact h1'
      · rw [if_neg e2] at h2'
        have h3 := chg_trans h1' h2'
        by_cases e3 : a = c
        · subst e3
          rw [chg_asym h1'] at h2'
          cases h2'
        · rw [if_neg e3]
          exact h3
theorem row_swo {α : Type} (k : α → List Chg) : SrtO.Swo fun x y => rowLt (k x) (k y) := by
  refine ⟨fun x y h => row_asym h, fun x y z h1 h2 => ?_⟩
  cases q : rowLt (k z) (k x) with
  | false => rfl
  | true =>
    exfalso
    cases q2 : rowLt (k x) (k y) with
    | true =>
      have := row_trans q q2
      rw [h2] at this
      cases this
    | false =>
      have e := row_tot h1 q2
      rw [← e] at q
      rw [q] at h2
      cases h2
abbrev SR (l : List (List Chg)) : Prop := l.Pairwise fun x y => rowLt y x = false
theorem ins_perm (x : List Chg) : ∀ l, (insR x l).Perm (x :: l)
  | [] => List.Perm.refl _
  | y :: l => by
    unfold insR
    split
    · exact (List.Perm.cons y (ins_perm x l)).trans (List.Perm.swap x y l)
    · exact List.Perm.refl _
theorem sort_perm : ∀ l, (sortR l).Perm l
  | [] => List.Perm.refl _
  | x :: l => (ins_perm x (sortR l)).trans (List.Perm.cons x (sort_perm l))
theorem ins_sr {x : List Chg} : ∀ {l}, SR l → SR (insR x l)
  | [], _ => List.pairwise_singleton _ _
  | y :: l, h => by
    unfold insR
    obtain ⟨h1, h2⟩ := List.pairwise_cons.mp h
    split
    · rename_i hy
      refine List.pairwise_cons.mpr ⟨fun z hz => ?_, ins_sr h2⟩
      rcases List.mem_cons.mp ((ins_perm x l).mem_iff.mp hz) with e | hz
      · subst e
        exact row_asym hy
      · exact h1 z hz
    · rename_i hy
      have hy' : rowLt y x = false := by cases q : rowLt y x with
        | true => exact absurd q hy
        | false => rfl
      refine List.pairwise_cons.mpr ⟨fun z hz => ?_, h⟩
      rcases List.mem_cons.mp hz with e | hz
      · subst e
        exact hy'
      · have h3 := h1 z hz
        exact (row_swo (fun r : List Chg => r)).tr x y z hy' h3
theorem sort_sr : ∀ l, SR (sortR l)
  | [] => List.Pairwise.nil
  | x :: l => ins_sr (sort_sr l)
theorem sr_uniq : ∀ {l m : List (List Chg)}, SR l → SR m → l.Perm m → l = m
  | [], m, _, _, h => (List.Perm.eq_nil h.symm).symm
  | x :: l, [], _, _, h => absurd h.length_eq (by simp)
  | x :: l, y :: m, hl, hm, h => by
    have h1 : rowLt x y = false := by
      rcases List.mem_cons.mp (h.mem_iff.mp (List.mem_cons_self (a := x) (l := l))) with e | hx
      · rw [e]
        exact row_irr y
      · exact (List.pairwise_cons.mp hm).1 x hx
    have h2 : rowLt y x = false := by
      rcases List.mem_cons.mp (h.mem_iff.mpr (List.mem_cons_self (a := y) (l := m))) with e | hy
      · rw [e]
        exact row_irr x
      · exact (List.pairwise_cons.mp hl).1 y hy
    have e := row_tot h1 h2
    subst e
    rw [sr_uniq (List.pairwise_cons.mp hl).2 (List.pairwise_cons.mp hm).2 h.cons_inv]
theorem sort_of {l m : List (List Chg)} (h : SR l) (p : l.Perm m) : l = sortR m := sr_uniq h (sort_sr m) (p.trans (sort_perm m).symm)
end DL

namespace SrtO
open PySem PyProof.Rows Srt DL
section
variable {prog : Program} {w : World} {A : Around} {E : Value → Shared → Prop} {s : Shared}
abbrev PRow (h : Heap) : List Value → List Chg → Prop := Paired fun u c => Srt.IsPair h u c.1 c.2
def IsRow (h : Heap) (v : Value) (r : List Chg) : Prop := ∃ a o xs n, v = .ref a ∧ h.get? a = some o ∧ o.cls = .type "tuple" ∧ o.data = .seq xs n ∧ PRow h xs.toList r
theorem PRow.keeps {h h' : Heap} (k : ∀ b o, h.get? b = some o → o.cls = .type "tuple" → h'.get? b = some o) : ∀ {us : List Value} {r : List Chg}, PRow h us r → PRow h' us r
  | _, _, .nil => .nil
  | _, _, .cons p r => .cons (p.keeps k) (PRow.keeps k r)
theorem IsRow.keeps {h h' : Heap} {v : Value} {r : List Chg} (p : IsRow h v r) (k : ∀ b o, h.get? b = some o → o.cls = .type "tuple" → h'.get? b = some o) : IsRow h' v r := by
  obtain ⟨a, o, xs, n, e, ho, hc, hd, q⟩ := p
  exact ⟨a, o, xs, n, e, k _ _ ho hc, hc, hd, q.keeps k⟩
theorem pair_reads {h : Heap} {v : Value} {x y : Int} (p : Srt.IsPair h v x y) : ∃ as, Reads h v (chgD (x, y)) as := by
  obtain ⟨a, o, t, u, n, e, ho, hc, hd⟩ := p
  subst e
  exact ⟨_, Reads.tuple ho hc hd (ReadsAll.cons (Reads.int x t) (ReadsAll.cons (Reads.int y u) ReadsAll.nil))⟩
theorem chg_eqv (c d : Chg) : PyData.eqv (chgD c) (chgD d) = decide (c = d) := by
  obtain ⟨a, b⟩ := c
  obtain ⟨a', b'⟩ := d
  have e : PyData.eqv (chgD (a, b)) (chgD (a', b')) = ((a == a') && ((b == b') && true)) := by simp only [chgD, PyData.eqv, PyData.eqvAll]
  rw [e]
  by_cases h1 : a = a'
  · by_cases h2 : b = b'
    · subst h1
      subst h2
      simp
    · simp [h1, h2]
  · simp [h1]
theorem pair_eqAt {u v : Value} {c d : Chg} (p : Srt.IsPair s.heap u c.1 c.2) (q : Srt.IsPair s.heap v d.1 d.2) (hu : A.units + 64 < cLine) : SeqAt.EqAt A s u v (decide (c = d)) := by
  obtain ⟨as, r1⟩ := pair_reads p
  obtain ⟨bs, r2⟩ := pair_reads q
  have h := SeqAt.eqAt_reads (chgD c) (chgD d) A s u v as bs r1 r2 (by simp [chgD, PyData.canLay0, PyData.canLayAll0]) (by simp [chgD, PyData.canLay0, PyData.canLayAll0]) (by
    have h1 : (chgD c).depth ≤ 64 := by simp [chgD, PyData.depth, PyData.depthAll]
    have h2 : min (chgD c).depth (chgD d).depth ≤ (chgD c).depth := Nat.min_le_left _ _
    omega)
  rw [chg_eqv] at h
  exact h
theorem pair_lt {u v : Value} {c d : Chg} {Q : Value → Shared → Prop} (p : Srt.IsPair s.heap u c.1 c.2) (q : Srt.IsPair s.heap v d.1 d.2) (hu : A.units < cLine) (h : Q (.bool (chgLt c d)) s) : wpAny (model prog w) A (compareOp .Lt u v) Q E s := by
  obtain ⟨a, o, t, u1, n, e, ho, hc, hd⟩ := p
  obtain ⟨a', o', t', u', n', e', ho', hc', hd'⟩ := q
  subst e
  subst e'
  refine HT.lt_tupInts (ns := [c.1, c.2]) (ms := [d.1, d.2]) ⟨o, ho, hc, n, hd⟩ ⟨o', ho', hc', n', hd'⟩ (.cons _ _ (.cons _ _ .nil)) (.cons _ _ (.cons _ _ .nil)) hu ?_
  have e : HT.lexLt [c.1, c.2] [d.1, d.2] = chgLt c d := by
    show (if c.1 = d.1 then (if c.2 = d.2 then false else decide (c.2 < d.2)) else decide (c.1 < d.1)) = (if c.1 = d.1 then decide (c.2 < d.2) else decide (c.1 < d.1))
    by_cases h1 : c.1 = d.1
    · rw [if_pos h1, if_pos h1]
      by_cases h2 : c.2 = d.2
      · rw [if_pos h2, h2]
        exact (decide_eq_false (Int.lt_irrefl _)).symm
      · rw [if_neg h2]
    · rw [if_neg h1, if_neg h1]
  rw [e]
  exact h
theorem row_lex {fin : Bool} (hu : A.units + 64 < cLine) : ∀ {us vs : List Value} {r q : List Chg} {i : Nat}, PRow s.heap us r → PRow s.heap vs q → fin = decide (r.length < q.length) →
    PySem.W.KatLex prog w A false fin (fun b s' => s' = s ∧ b = rowLt r q) (us.zip vs) i s
  | _, _, _, _, _, .nil, .nil, hf => PySem.W.kat_nil ⟨rfl, hf⟩
  | _, _, _, _, _, .nil, .cons _ _, hf => PySem.W.kat_nil ⟨rfl, by rw [hf]; rfl⟩
  | _, _, _, _, _, .cons _ _, .nil, hf => PySem.W.kat_nil ⟨rfl, by rw [hf]; rfl⟩
  | _, _, c :: r, d :: q, i, .cons p ps, .cons p' ps', hf => by
    refine PySem.W.kat_cons (pair_eqAt p p' hu prog w _ _ ?_)
    refine PySem.W.kat_go (fun e => ?_) (fun e => ?_)
    · have ec : c = d := of_decide_eq_true e
      have e3 : rowLt (c :: r) (d :: q) = rowLt r q := if_pos ec
      refine PySem.W.kat_yes ?_
      rw [e3]
      refine row_lex hu ps ps' ?_
      rw [hf, List.length_cons, List.length_cons]
      exact decide_eq_decide.mpr (Nat.succ_lt_succ_iff)
    · have ec : ¬ c = d := of_decide_eq_false e
      have e3 : rowLt (c :: r) (d :: q) = chgLt c d := if_neg ec
      refine PySem.W.kat_no (PySem.W.kat_one _ _ (pair_lt p p' (by omega) ?_))
      exact (show s = s ∧ chgLt c d = rowLt (c :: r) (d :: q) from ⟨rfl, e3.symm⟩)
theorem PRow.len {h : Heap} {us : List Value} {r : List Chg} (p : PRow h us r) : us.length = r.length := Paired.length p
theorem row_keyLt {x y : Value} {r q : List Chg} (p : IsRow s.heap x r) (p' : IsRow s.heap y q) (hu : A.units + 64 < cLine) :
    wpAny (model prog w) A (keyLt' (tuples' false) x y) (fun b s' => s' = s ∧ b = rowLt r q) E s := by
  obtain ⟨a, o, xs, n, e, ho, hc, hd, g⟩ := p
  obtain ⟨a', o', ys, n', e', ho', hc', hd', g'⟩ := p'
  subst e
  subst e'
  refine PySem.W.kat_lt ho hd ho' hd' (row_lex hu g g' ?_)
  rw [← g.len, ← g'.len, Array.length_toList, Array.length_toList]
theorem row_firsts {h : Heap} {k : Value → List Chg} : ∀ {vs : List Value}, (∀ v ∈ vs, IsRow h v (k v) ∧ k v ≠ []) → ∃ fs : List Value, PySem.W.KatTups h vs fs ∧ fs.length = vs.length ∧ ∀ f ∈ fs, ∃ c : Chg, Srt.IsPair h f c.1 c.2
  | [], _ => ⟨[], PySem.W.KatTups.nil, rfl, fun f hf => by simp at hf⟩
  | v :: vs, hp => by
    obtain ⟨fs, h1, h2, h3⟩ := row_firsts (vs := vs) fun v' hm => hp v' (List.mem_cons_of_mem _ hm)
    obtain ⟨⟨a, o, xs, n, e, ho, hc, hd, g⟩, hne⟩ := hp v List.mem_cons_self
    obtain ⟨c, r, ek⟩ : ∃ c r, k v = c :: r := by
      cases q : k v with
      | nil => exact absurd q hne
      | cons c r => exact ⟨c, r, rfl⟩
    rw [ek] at g
    obtain ⟨u, us, eu, pu⟩ : ∃ u us, xs.toList = u :: us ∧ Srt.IsPair h u c.1 c.2 := by
      revert g
      generalize xs.toList = l
      intro g
      cases g with
      | cons p ps => exact ⟨_, _, rfl, p⟩
    subst e
    refine ⟨u :: fs, PySem.W.KatTups.cons ho hc hd (by rw [← Array.getElem?_toList, eu]; rfl) h1, by rw [List.length_cons, List.length_cons, h2], fun f hm => ?_⟩
    rcases List.mem_cons.mp hm with rfl | hm
    · exact ⟨c, pu⟩
    · exact h3 f hm
theorem rows_sortable {a : Addr} {vs : List Value} {k : Value → List Chg} (hu : A.units + 64 < cLine) (h0 : 0 < vs.length) (hp : ∀ v ∈ vs, IsRow s.heap v (k v) ∧ k v ≠ []) (ha : ∀ o, s.heap.get? a = some o → o.cls ≠ .type "tuple") :
    SortableO prog w A s a vs fun v u => rowLt (k v) (k u) := by
  intro h' keep
  have hp' : ∀ v ∈ vs, IsRow h' v (k v) ∧ k v ≠ [] := fun v hm => ⟨(hp v hm).1.keeps fun b o e c => keep b o (fun z => by subst z; exact ha o e c) e, (hp v hm).2⟩
  obtain ⟨fs, h1, h2, h3⟩ := row_firsts hp'
  refine ⟨tuples' false, fun Q E hq => ?_, fun p q hm hm' => row_keyLt (s := { s with heap := h' }) (hp' _ hm).1 (hp' _ hm').1 hu⟩
  refine PySem.W.kat_kind (T := .type "tuple") h1 (by omega) (fun f hm => ?_) (by rfl) ?_
  · obtain ⟨c, a1, o, t, u, n, e, ho, hc, hd⟩ := h3 f hm
    subst e
    have hl := (PySem.W.Looks.ld (M := model prog w) (part := none) ho)
    rw [← hc]
    exact (PySem.W.Looks.ld ho).andThen .now
  · have e : (Value.type "tuple" != Value.type "tuple") = false := by first | rfl | decide +kernel | decide
    rw [e]
    exact hq
end
end SrtO

namespace DL
open PySem L2
open Evl (Ex)
open Classical in
noncomputable def keyH (H : Hp) (v : V) : List Chg := if h : ∃ r, Dd H v (rowD r) then h.choose else []
mutual
theorem Dd.inj {H : Hp} : ∀ (d : PyData) (v : V) (e : PyData), Dd H v d → Dd H v e → d = e
  | .none, _, e, h, k => by cases h; cases k; rfl
  | .bool b, _, e, h, k => by cases h; cases k; rfl
  | .int i, _, e, h, k => by cases h; cases k; rfl
  | .str x, _, e, h, k => by cases h; cases k; rfl
  | .list ds, _, e, h, k => by
    cases h with
    | lst q hs =>
      cases k with
      | lst q2 ks =>
        rw [q] at q2
        cases q2
        rw [DdAll.inj ds _ _ hs ks]
      | tup q2 ks =>
        rw [q] at q2
        cases q2
  | .tuple ds, _, e, h, k => by
    cases h with
    | tup q hs =>
      cases k with
      | tup q2 ks =>
        rw [q] at q2
        cases q2
        rw [DdAll.inj ds _ _ hs ks]
      | lst q2 ks =>
        rw [q] at q2
        cases q2
  | .dict _, _, e, h, k => by cases h
theorem DdAll.inj {H : Hp} : ∀ (ds : List PyData) (vs : List V) (es : List PyData), DdAll H vs ds → DdAll H vs es → ds = es
  | [], _, es, h, k => by cases h; cases k; rfl
  | d :: ds, _, es, h, k => by
    cases h with
    | cons h1 h2 =>
      cases k with
      | cons k1 k2 => rw [Dd.inj d _ _ h1 k1, DdAll.inj ds _ _ h2 k2]
end
theorem rowD_inj {r q : List Chg} (h : rowD r = rowD q) : r = q := by
  have h1 := rowOf_rowD r
  rw [h, rowOf_rowD] at h1
  exact (Option.some.inj h1).symm
theorem keyH_eq {H : Hp} {v : V} {r : List Chg} (d : Dd H v (rowD r)) : keyH H v = r := by
  unfold keyH
  have h : ∃ r, Dd H v (rowD r) := ⟨r, d⟩
  rw [dif_pos h]
  exact rowD_inj (Dd.inj _ v _ h.choose_spec d)
section
variable {X : Cx} {pins : List (Addr × Obj)} {σ : St} {H : Hp} {s : Shared}
theorem pairs_of (I : Inv X pins σ H s) : ∀ {xs : List V} {us : List Value} {r : List Chg}, Vals xs us → DdAll H xs (r.map chgD) → SrtO.PRow s.heap us r
  | _, _, [], .nil, .nil => .nil
  | _, _, c :: r, .cons rv rs, .cons d ds => by
    refine .cons ?_ (pairs_of I rs ds)
    cases d with
    | tup e a =>
      cases a with
      | cons a1 a2 =>
        cases a2 with
        | cons a2 a3 =>
          cases a3
          cases a1
          cases a2
          cases rv
          obtain ⟨_, its, rv', o, ho, hc, n, hd⟩ := I.hok _ _ e
          cases rv' with
          | cons q1 q2 =>
            cases q2 with
            | cons q2 q3 =>
              cases q3
              obtain ⟨t, rfl⟩ := q1
              obtain ⟨u, rfl⟩ := q2
              exact ⟨_, o, t, u, n, rfl, ho, hc, hd⟩
theorem row_of (I : Inv X pins σ H s) {v : V} {u : Value} {r : List Chg} (rv : RelV v u) (d : Dd H v (rowD r)) : SrtO.IsRow s.heap u r ∧ ∃ a, v = .ref a := by
  unfold rowD at d
  cases d with
  | tup e a =>
    cases rv
    obtain ⟨_, its, rv', o, ho, hc, n, hd⟩ := I.hok _ _ e
    exact ⟨⟨_, o, its.toArray, n, rfl, ho, hc, hd, pairs_of I rv' a⟩, _, rfl⟩
end
theorem dd_mem {H : Hp} : ∀ {xs : List V} {rs : List (List Chg)} {x : V}, DdAll H xs (rs.map rowD) → x ∈ xs → ∃ r, r ∈ rs ∧ Dd H x (rowD r)
  | _, [], x, .nil, h => by cases h
  | _, r :: rs, x, .cons d ds, h => by
    rcases List.mem_cons.mp h with e | h
    · subst e
      exact ⟨r, List.mem_cons_self, d⟩
    · obtain ⟨q, h1, h2⟩ := dd_mem ds h
      exact ⟨q, List.mem_cons_of_mem _ h1, h2⟩
theorem keys_map {H : Hp} : ∀ {xs : List V} {rs : List (List Chg)}, DdAll H xs (rs.map rowD) → xs.map (keyH H) = rs
  | _, [], .nil => rfl
  | _, r :: rs, .cons d ds => by rw [List.map_cons, keyH_eq d, keys_map ds]
theorem dd_keys {H : Hp} : ∀ {ys : List V}, (∀ y ∈ ys, ∃ r, Dd H y (rowD r)) → DdAll H ys ((ys.map (keyH H)).map rowD)
  | [], _ => .nil
  | y :: ys, h => by
    obtain ⟨r, d⟩ := h y List.mem_cons_self
    refine .cons ?_ (dd_keys fun z hz => h z (List.mem_cons_of_mem _ hz))
    rw [keyH_eq d]
    exact d
/-- sorted(xs) of rows -/
def rSortR : List V → Hp → VK → Prop := fun vs H Q => ∃ (a : Addr) (xs : List V) (rs : List (List Chg)), vs = [V.ref a] ∧ H a = some (.lst xs) ∧ DdAll H xs (rs.map rowD) ∧ (xs.length ≤ 1 ∨ ∀ r ∈ rs, r ≠ []) ∧
  ∀ ys p, DdAll H ys ((sortR rs).map rowD) → (∀ y ∈ ys, y ∈ xs) → H p = none → Q (.ref p) (upd H p (.lst ys))
theorem cr_sortR {X : Cx} {k : Nat} (hr : Room k X.A) : CallR X (.builtin "sorted") rSortR := by
  intro pins s σ H vs us Q I r h
  obtain ⟨a, xs, rs, rfl, hH, hd, hne, q⟩ := h
  obtain ⟨its, rv, hl, hz⟩ := I.list (SqL.of hH : SqL X.K H a xs)
  obtain ⟨u, rfl, ru⟩ := vals1 r
  obtain rfl : u = Value.ref a := ru
  have hx : ∀ x ∈ xs, ∃ r, r ∈ rs ∧ Dd H x (rowD r) := fun x hm => dd_mem hd hm
  obtain ⟨e1, e2⟩ := refs_back rv fun x m => by
    obtain ⟨r, _, d⟩ := hx x m
    unfold rowD at d
    cases d with
    | tup _ _ => exact ⟨_, rfl⟩
  have hrow : ∀ v ∈ its, SrtO.IsRow s.heap v (keyH H (backV v)) ∧ (2 ≤ its.length → keyH H (backV v) ≠ []) := fun v hv => by
    have hm : backV v ∈ xs := by rw [e1]; exact List.mem_map.mpr ⟨v, hv, rfl⟩
    obtain ⟨r, hr, d⟩ := hx _ hm
    obtain ⟨t, rfl⟩ := e2 v hv
    rw [keyH_eq d]
    refine ⟨(row_of I (show RelV (V.ref t) (Value.ref t) from rfl) d).1, fun h2 => ?_⟩
    rcases hne with h | h
    · rw [rv.length] at h
      omega
    · exact h r hr
  refine SrtO.sorted_ord (row_swo fun v => keyH H (backV v)) hl.isList (by rw [← rv.length]; exact hz) (fun h2 h₁ a₁ ha kk => ?_) fun out hs hb => ?_
  · refine SrtO.rows_sortable (s := { s with heap := h₁ }) (by have := hr.un; show X.A.units + 1 + 1 + 64 < cLine; omega) (by omega) (fun v hm => ⟨(hrow v hm).1.keeps fun b o e _ => (kk b o e).2, (hrow v hm).2 h2⟩) fun o e => ?_
    have e' : some o = some (PyProof.Rows.seqObj "list" its.toArray 0) := e.symm.trans ha
    cases e'
    intro c
    exact absurd (Value.type.inj c) (by decide)
  · have hout : ∀ u ∈ out, ∃ a, u = Value.ref a := fun u hu => e2 u (hb.perm.mem_iff.mp hu)
    have hdd : DdAll H (out.map backV) (((out.map backV).map (keyH H)).map rowD) := dd_keys fun y hy => by
      obtain ⟨u, hu, e⟩ := List.mem_map.mp hy
      have hm : y ∈ xs := by rw [e1]; exact List.mem_map.mpr ⟨u, hb.perm.mem_iff.mp hu, e⟩
      obtain ⟨r, _, d⟩ := hx y hm
      exact ⟨r, d⟩
    have hkey : (out.map backV).map (keyH H) = sortR rs := by
      refine sort_of ?_ ?_
      · rw [List.map_map]
        exact List.pairwise_map.mpr hs
      · have h1 : xs.map (keyH H) = rs := keys_map hd
        rw [← h1, e1]
        exact (hb.perm.map _).map _
    rw [hkey] at hdd
    have hfr : H (s.heap.objs.size + 1) = none := I.hok.fresh (Nat.le_succ _)
    obtain ⟨n, hn⟩ : ∃ n, (PyProof.Rows.sortedAll s.heap its out.toArray).get? (s.heap.objs.size + 1) = some (PyProof.Rows.seqObj "list" out.toArray n) := PyProof.Rows.sortedAll_at s.heap its out.toArray
    refine ⟨.ref (s.heap.objs.size + 1), upd H (s.heap.objs.size + 1) (.lst (out.map backV)), I.laid (t' := s.toks) (fun b o e => PyProof.Rows.sortedAll_old e) (Nat.le_succ _) ⟨?_, out, n, vals_back hout, hn⟩, rfl, q _ _ hdd (fun y hy => by
      obtain ⟨u, hu, e⟩ := List.mem_map.mp hy
      rw [e1]
      exact List.mem_map.mpr ⟨u, hb.perm.mem_iff.mp hu, e⟩) hfr⟩
    rw [List.length_map, hb.len, ← rv.length]
    exact hz
theorem sc_sort : SndC rSortR sortF := by
  intro ds z h m vs G H s d Q q
  unfold sortF at h
  split at h
  · rename_i xs
    obtain ⟨rs, hrs, h⟩ := of_bind h
    have hc : xs.length ≤ cap ∧ (xs.length ≤ 1 ∨ rs.all (fun r => !r.isEmpty) = true) := by
      split at h
      · assumption
      · cases h
    rw [if_pos hc] at h
    cases h
    rw [rowsOf_eq hrs] at d hc
    cases d with
    | cons d1 d2 =>
      cases d2
      cases d1 with
      | lst e a =>
        refine ⟨_, _, rs, rfl, s.ex _ _ e, a.up s.ex, ?_, fun ys p hy hin hp => ?_⟩
        · rcases hc.2 with h | h
          · exact .inl (by rw [a.len]; exact h)
          · refine .inr fun r hr he => ?_
            have := List.all_eq_true.mp h r hr
            rw [he] at this
            cases this
        · have hG : ∀ y ∈ ys, ∃ r, Dd G y (rowD r) := fun y hm => by
            obtain ⟨r, _, d⟩ := dd_mem a (hin y hm)
            exact ⟨r, d⟩
          have hk : ys.map (keyH G) = sortR rs := by
            rw [← keys_map hy]
            refine List.map_congr_left fun y hm => ?_
            obtain ⟨r, d⟩ := hG y hm
            rw [keyH_eq d, keyH_eq (d.up s.ex)]
          have hd := dd_keys hG
          rw [hk] at hd
          exact q _ _ _ (Grow.new s hp) (.lst upd_same (hd.up (Grow.new s hp).g))
  · cases h
end DL
/-! DL9: a dict whose keys are pairs of ints, asked by a pair that may hold None; defs over slots. -/
namespace DL
open PySem L2
open Evl (Ex)
abbrev Far := List ((Int × Int) × Int)
def lookF (f : Far) (k : Int × Int) : Option Int := (f.find? fun p => decide (p.1 = k)).map (·.2)
/-- what a value is as a part of a key -/
def nkV : V → Option NestedKey
  | .non => some .none
  | .int i => some (.num i)
  | _ => none
def lookN (f : Far) : NestedKey → NestedKey → Option V
  | .num a, .num b => (lookF f (a, b)).map V.int
  | _, _ => none
def keyN : Key → NestedKey
  | .inl i => .num i
  | .inr x => .text x
def toN (ks : List Key) : NestedKey := .tup (ks.map keyN)
theorem keyN_inj {a b : Key} (h : keyN a = keyN b) : a = b := by
  cases a with
  | inl i => cases b with
    | inl j => cases h; rfl
    | inr y => cases h
  | inr x => cases b with
    | inl j => cases h
    | inr y => cases h; rfl
theorem keysN_inj : ∀ {a b : List Key}, a.map keyN = b.map keyN → a = b
  | [], [], _ => rfl
  | [], _ :: _, h => by cases h
  | _ :: _, [], h => by cases h
  | x :: xs, y :: ys, h => by
    rw [List.map_cons, List.map_cons] at h
    obtain ⟨h1, h2⟩ := List.cons.inj h
    rw [keyN_inj h1, keysN_inj h2]
theorem toN_inj {a b : List Key} (h : toN a = toN b) : a = b := keysN_inj (NestedKey.tup.inj h)
theorem hash_keyN (w : World) (k : Key) : (keyN k).hash w = L2.keyH w k := by cases k <;> rfl
theorem hashes_keyN (w : World) : ∀ ks : List Key, NestedKey.hashes w (ks.map keyN) = ks.map (L2.keyH w)
  | [] => by simp only [List.map_nil, NestedKey.hashes]
  | k :: ks => by
    rw [List.map_cons, List.map_cons]
    simp only [NestedKey.hashes]
    rw [hash_keyN, hashes_keyN w ks]
theorem hash_toN {P : Program} {w : World} (ks : List Key) : (toN ks).hash w = (tupleKind (mixKind P w)).hash ks := by
  unfold toN
  simp only [NestedKey.hash]
  rw [hashes_keyN]
  rfl
theorem items_N {P : Program} {w : World} {h : Heap} : ∀ {ks : List Key} {vs : List Value}, ItemsAre (mixKind P w) ks vs → NestedAll h (ks.map keyN) vs
  | _, _, .nil => .nil
  | k :: ks, _, .cons hk r => by
    refine .cons ?_ (items_N r)
    rcases keyIs_shape (show keyIs k _ = true from hk) with ⟨i, t, rfl, rfl⟩ | ⟨x, t, rfl, rfl⟩
    · exact .int i t
    · exact .text x t
theorem depth_keys : ∀ ks : List Key, NestedKey.depthAll (ks.map keyN) = 0
  | [] => by simp only [List.map_nil, NestedKey.depthAll]
  | k :: ks => by
    rw [List.map_cons]
    simp only [NestedKey.depthAll]
    rw [depth_keys ks]
    cases k <;> simp [keyN, NestedKey.depth]
theorem is_toN {P : Program} {w : World} {h : Heap} {ks : List Key} {a : Addr} (x : (tupleKind (mixKind P w)).is h ks a) : (nestedKind P w).is h (toN ks) a := by
  obtain ⟨o, items, n, h1, h2, h3, h4⟩ := x
  refine ⟨.tup h1 h2 h3 (items_N h4), ?_⟩
  unfold toN
  simp only [NestedKey.depth]
  rw [depth_keys]
  decide
theorem nodup_toN : ∀ {l : List (List Key)}, l.Nodup → (l.map toN).Nodup
  | [], _ => List.nodup_nil
  | k :: l, h => by
    obtain ⟨h1, h2⟩ := List.nodup_cons.mp h
    rw [List.map_cons]
    refine List.nodup_cons.mpr ⟨fun hm => ?_, nodup_toN h2⟩
    obtain ⟨k', hk, e⟩ := List.mem_map.mp hm
    rw [toN_inj e] at hk
    exact h1 hk
theorem dict_N {P : Program} {w : World} {h : Heap} {a : Addr} {xs : List (List Key × Addr × Value)} (d : h.DictOfH (tupleKind (mixKind P w)) a xs) : h.DictOfH (nestedKind P w) a (xs.map fun x => (toN x.1, x.2)) := by
  obtain ⟨o, es, ep, h1, h2, h3, h4, h5, h6⟩ := d
  refine ⟨o, es, ep, h1, h2, h3, ?_, fun x hx => ?_, ?_⟩
  · rw [h4, List.map_map]
    refine List.map_congr_left fun x _ => ?_
    show (⟨(tupleKind (mixKind P w)).hash x.1, .ref x.2.1, x.2.2⟩ : DictEntry) = ⟨(nestedKind P w).hash (toN x.1), .ref x.2.1, x.2.2⟩
    rw [show (nestedKind P w).hash (toN x.1) = (toN x.1).hash w from rfl, hash_toN (P := P)]
  · obtain ⟨y, hy, e⟩ := List.mem_map.mp hx
    subst e
    exact is_toN (h5 y hy)
  · have e : (xs.map fun x => (toN x.1, x.2)).map (·.1) = (xs.map (·.1)).map toN := by rw [List.map_map, List.map_map]; rfl
    rw [e]
    exact nodup_toN h6
theorem lookF_cons (p : (Int × Int) × Int) (f : Far) (k : Int × Int) : lookF (p :: f) k = if p.1 = k then some p.2 else lookF f k := by
  unfold lookF
  rw [List.find?_cons]
  by_cases e : p.1 = k
  · rw [if_pos e, decide_eq_true e]
    rfl
  · rw [if_neg e, decide_eq_false e]
theorem far_at {H : Hp} (k1 k2 : NestedKey) : ∀ {f : Far} {xs : List (List Key × Addr × Value)}, KT H (farK f) xs →
    RelO (lookN f k1 k2) ((atKey (xs.map fun x => (toN x.1, x.2)) (NestedKey.tup [k1, k2])).map (·.2))
  | [], _, .nil => by
    cases k1 <;> first | exact True.intro | (cases k2 <;> exact True.intro)
  | p :: f, _, .cons h r => by
    rename_i q qs
    obtain ⟨h1, _, h2⟩ := h
    have ih := far_at k1 k2 (f := f) r
    have eq1 : q.1 = [Sum.inl p.1.1, Sum.inl p.1.2] := h1.symm
    rw [List.map_cons]
    by_cases e : NestedKey.tup [NestedKey.num p.1.1, NestedKey.num p.1.2] = NestedKey.tup [k1, k2]
    · have e1 : k1 = .num p.1.1 := by
        have := (List.cons.inj (NestedKey.tup.inj e)).1
        exact this.symm
      have e2 : k2 = .num p.1.2 := by
        have := (List.cons.inj (List.cons.inj (NestedKey.tup.inj e)).2).1
        exact this.symm
      have b : atKey ((toN q.1, q.2) :: qs.map fun x => (toN x.1, x.2)) (NestedKey.tup [k1, k2]) = some q.2 := by
        have z : toN q.1 = NestedKey.tup [k1, k2] := by rw [eq1]; exact e
        simp [atKey, List.find?_cons, z]
      rw [b, e1, e2]
      show RelO ((lookF (p :: f) (p.1.1, p.1.2)).map V.int) (some q.2.2)
      rw [lookF_cons, if_pos rfl]
      exact h2
    · have b : atKey ((toN q.1, q.2) :: qs.map fun x => (toN x.1, x.2)) (NestedKey.tup [k1, k2]) = atKey (qs.map fun x => (toN x.1, x.2)) (NestedKey.tup [k1, k2]) := by
        have z : ¬ toN q.1 = NestedKey.tup [k1, k2] := by rw [eq1]; exact e
        simp [atKey, List.find?_cons, z]
      rw [b]
      have l : lookN (p :: f) k1 k2 = lookN f k1 k2 := by
        cases k1 <;> first | rfl | skip
        cases k2 <;> first | rfl | skip
        rename_i i1 i2
        show (lookF (p :: f) (i1, i2)).map V.int = (lookF f (i1, i2)).map V.int
        rw [lookF_cons, if_neg]
        intro z
        apply e
        rw [z]
      rw [l]
      exact ih
section
variable {X : Cx} {pins : List (Addr × Obj)} {σ : St} {H : Hp} {s : Shared} {a : Addr} {d : V} {r : Value} {A : Around} {E : Value → Shared → Prop}
theorem nk_is {h : Heap} {v : V} {u : Value} {k : NestedKey} (r : RelV v u) (e : nkV v = some k) : NestedIs h k u ∧ k.depth = 0 := by
  cases v <;> first | (cases e; done) | skip
  · cases e
    cases (show u = Value.none from r)
    exact ⟨.none, rfl⟩
  · cases e
    obtain ⟨t, rfl⟩ := (show ∃ t, u = Value.int _ t from r)
    exact ⟨.int _ t, rfl⟩
theorem d_getFar {Q : Value → Shared → Prop} {f : Far} {b : Addr} {x1 x2 : V} {k1 k2 : NestedKey} (hu : A.units + 10 < cLine) (I : Inv X pins σ H s) (e : Rd H a (.dT (farK f))) (eb : H b = some (.tup [x1, x2])) (n1 : nkV x1 = some k1) (n2 : nkV x2 = some k2) (rd : RelV d r)
    (h : ∀ w' s', Inv X pins σ H s' → RelV ((lookN f k1 k2).getD d) w' → Q w' s') : wpAny (model X.prog X.w) A (call (.builtin "dict.get") [.ref a, .ref b, r]) Q E s := by
  obtain ⟨z, hd, xs, rel, dd⟩ := dt_rd I.hok e
  obtain ⟨_, its, rv, o, ho, hc, n, hdt⟩ := I.hok _ _ eb
  have hk : (nestedKind X.prog X.w).is s.heap (.tup [k1, k2]) b := by
    cases rv with
    | cons r1 rr =>
      cases rr with
      | cons r2 rr =>
        cases rr
        obtain ⟨i1, d1⟩ := nk_is (h := s.heap) r1 n1
        obtain ⟨i2, d2⟩ := nk_is (h := s.heap) r2 n2
        refine ⟨.tup ho hc hdt (.cons i1 (.cons i2 .nil)), ?_⟩
        simp only [NestedKey.depth, NestedKey.depthAll]
        omega
  refine call_meetsIn PySem.F.slot_dict_get dd.typeIs PySem.F.entry_dict_get (PySem.F.args_dict_get_3 _ _ _) (meetsH_dict_get_default (nestedKind X.prog X.w) a b hd r) ⟨?_, _, _, hk, dict_N dd, h _ _ (I.tok _) ((far_at k1 k2 rel).getD rd)⟩
  show A.units + 1 + 8 < cLine
  omega
end
def tDGetF (td ty tx : TE) : TE := fun σ H Q => td σ H fun x H1 => ∃ a f, x = .ref a ∧ Rd H1 a (.dT (farK f)) ∧ ty σ H1 fun y H2 => tx σ H2 fun z H3 => ∃ b x1 x2 k1 k2, y = .ref b ∧ Rd H3 a (.dT (farK f)) ∧ H3 b = some (.tup [x1, x2]) ∧ nkV x1 = some k1 ∧ nkV x2 = some k2 ∧ Q ((lookN f k1 k2).getD z) H3
theorem pe_dgetF {X : Cx} {o e f : Expr} {apos cpos : Pos} {td ty tx : TE} (hu : X.A.units + 64 < cLine) (ho : PE X o td) (he : PE X e ty) (hf : PE X f tx) (m : M2 X o "get" apos e f cpos) : PE X (.Call (.Attribute o "get" apos) [e, f] [] cpos) (tDGetF td ty tx) := by
  refine ⟨fun pins s σ H Q I h => ?_⟩
  refine PySem.wpAny_Call_method m.base m.few m.line PySem.F.plainAttrs_dict PySem.F.slot_dict_get PySem.F.type_dict_get (thn (ho.run pins s σ H _ I h) fun u s1 ⟨x, H1, I1, rx, a, fr, ex, d, q1⟩ => ?_)
  subst ex
  obtain rfl : u = Value.ref a := rx
  obtain ⟨t1, t2, _⟩ := isD_at I1 (.inr ⟨_, d⟩)
  refine ⟨t1, t2, ?_⟩
  rw [m.trees]
  refine Calls.callWith_builtin rfl (Calls.evalArgs_plain (Calls.spliced_cons (thn (he.run pins s1 σ H1 _ I1 q1) fun iv s2 ⟨y, H2, I2, ry, q2⟩ =>
    Calls.spliced_cons (thn (hf.run pins s2 σ H2 _ I2 q2) fun fv s3 ⟨z, H3, I3, rz, b, x1, x2, k1, k2, ey, d3, eb, n1, n2, q3⟩ => Calls.spliced_nil ?_))))
  subst ey
  obtain rfl : iv = Value.ref b := ry
  exact d_getFar (by omega) I3 d3 eb n1 n2 rz fun w' s4 I4 rw' => ⟨_, H3, I4, rw', q3⟩
/-! ### over data -/
def nkD : PyData → Option NestedKey
  | .none => some .none
  | .int i => some (.num i)
  | _ => none
def lookD (f : Far) (z : PyData) : NestedKey → NestedKey → PyData
  | .num a, .num b => match lookF f (a, b) with
    | some n => .int n
    | none => z
  | _, _ => z
def getFD (f : Far) (y z : PyData) : Option PyData := match y with
  | .tuple [a, b] => (nkD a).bind fun k1 => (nkD b).map fun k2 => lookD f z k1 k2
  | _ => none
def fGetF (i : Nat) (fa fb : FM) : FM := fun ρ => match ρ[i]? with
  | some (some (.far f)) => (fa ρ).bind fun y => (fb ρ).bind fun z => getFD f y z
  | _ => none
theorem nk_dd {H : Hp} {v : V} {x : PyData} {k : NestedKey} (d : Dd H v x) (e : nkD x = some k) : nkV v = some k := by
  cases d <;> first | (cases e; rfl) | cases e
theorem look_dd {H : Hp} {f : Far} {u : V} {z : PyData} {k1 k2 : NestedKey} (d : Dd H u z) : Dd H ((lookN f k1 k2).getD u) (lookD f z k1 k2) := by
  cases k1 <;> first | exact d | skip
  cases k2 <;> first | exact d | skip
  rename_i i1 i2
  show Dd H (((lookF f (i1, i2)).map V.int).getD u) (match lookF f (i1, i2) with | some n => .int n | none => z)
  cases lookF f (i1, i2) with
  | none => exact d
  | some n => exact .int n
theorem fe_getF {X : Cx} {i : Nat} {o e f : Expr} {apos cpos : Pos} {te tf : TE} {fa fb : FM} (hv : PE X o (tVar i)) (h1 : FE X e te fa) (h2 : FE X f tf fb) (hp : PE X o (tVar i) → PE X e te → PE X f tf → PE X (.Call (.Attribute o "get" apos) [e, f] [] cpos) (tDGetF (tVar i) te tf)) :
    FE X (.Call (.Attribute o "get" apos) [e, f] [] cpos) (tDGetF (tVar i) te tf) (fGetF i fa fb) := by
  refine ⟨hp hv h1.pe h2.pe, fun m ρ Φ hp σ G H s he Q q => ?_⟩
  obtain ⟨w, hw, hΦ⟩ := hp
  unfold fGetF at hw
  split at hw
  · rename_i fr hρ
    obtain ⟨y, hy, hw⟩ := of_bind hw
    obtain ⟨z, hz, hw⟩ := of_bind hw
    obtain ⟨v, hv1, a, ea, ga⟩ := he.at_ i _ hρ
    subst ea
    refine ⟨_, hv1, a, fr, rfl, .inl (s.ex _ _ ga), ?_⟩
    refine h1.snd m ρ (fun t => t = y) ⟨y, hy, rfl⟩ σ G H s he _ fun y' u G1 H1 ey w1 d1 => ?_
    refine h2.snd m ρ (fun t => t = z) ⟨z, hz, rfl⟩ σ G1 H1 w1.st (he.up w1.g) _ fun z' u2 G2 H2 ez w2 d2 => ?_
    rw [ey] at d1
    rw [ez] at d2
    unfold getFD at hw
    split at hw
    · rename_i p1 p2
      obtain ⟨k1, hk1, hw⟩ := of_bind hw
      obtain ⟨k2, hk2, ew⟩ := Option.map_eq_some_iff.mp hw
      cases d1 with
      | tup e1 a1 =>
        cases a1 with
        | cons b1 bs =>
          cases bs with
          | cons b2 bs =>
            cases bs
            refine ⟨_, _, _, k1, k2, rfl, .inl (w2.st.ex _ _ (w2.g _ _ (w1.g _ _ ga))), w2.st.ex _ _ (w2.g _ _ e1), nk_dd b1 hk1, nk_dd b2 hk2, ?_⟩
            refine q w _ G2 H2 hΦ (w1.trans w2) ?_
            subst ew
            exact look_dd d2
    · cases hw
  · cases hw
/-! ### defs over slots -/
def SlotAll (m : Option Addr) (G : Hp) : List V → List Slot → Prop
  | [], [] => True
  | v :: vs, s :: ss => SlotOk m G v s ∧ SlotAll m G vs ss
  | _, _ => False
theorem SlotAll.len {m : Option Addr} {G : Hp} : ∀ {vs : List V} {ss : List Slot}, SlotAll m G vs ss → vs.length = ss.length
  | [], [], _ => rfl
  | _ :: vs, _ :: ss, h => by rw [List.length_cons, List.length_cons, SlotAll.len h.2]
  | [], _ :: _, h => h.elim
  | _ :: _, [], h => h.elim
theorem SlotAll.get {m : Option Addr} {G : Hp} : ∀ {vs : List V} {ss : List Slot} {i : Nat} {t : Slot}, SlotAll m G vs ss → ss[i]? = some t → ∃ v, vs[i]? = some v ∧ SlotOk m G v t
  | [], [], _, _, _, e => by cases e
  | v :: vs, s :: ss, 0, t, h, e => by
    cases e
    exact ⟨v, rfl, h.1⟩
  | v :: vs, s :: ss, i + 1, t, h, e => by
    rw [List.getElem?_cons_succ] at e
    obtain ⟨u, h1, h2⟩ := SlotAll.get h.2 e
    exact ⟨u, by rw [List.getElem?_cons_succ]; exact h1, h2⟩
  | [], _ :: _, _, _, h, _ => h.elim
  | _ :: _, [], _, _, h, _ => h.elim
def startS (n : Nat) (ss : List Slot) : DEnv := ss.map some ++ List.replicate n none
theorem env_startS {m : Option Addr} {G : Hp} {N : List Str} {vs : List V} {ss : List Slot} {n : Nat} (d : SlotAll m G vs ss) (hn : N.length = vs.length + n) : EnvOk m G (L2.start N vs) (startS n ss) := by
  unfold L2.start startS
  have e : N.length - vs.length = n := by omega
  rw [e]
  refine ⟨by rw [List.length_append, List.length_append, List.length_map, List.length_map, d.len, List.length_replicate, List.length_replicate], fun i s h => ?_⟩
  rw [List.getElem?_append, List.length_map] at h
  split at h
  · rename_i hi
    rw [List.getElem?_map] at h
    obtain ⟨x, hx, e⟩ := Option.map_eq_some_iff.mp h
    cases e
    obtain ⟨v, h1, h2⟩ := d.get hx
    refine ⟨v, ?_, h2⟩
    rw [List.getElem?_append_left (by rw [List.length_map, d.len]; exact hi), List.getElem?_map, h1]
    rfl
  · rw [List.getElem?_replicate] at h
    split at h <;> cases h
/-- what comes of a body that draws: what is wanted of its value -/
def endP (p : (Out → Prop) → Prop) (Φ : PyData → Prop) : Prop := p fun o => match o with
  | .rt x => Φ x
  | .nx _ => Φ .none
  | _ => False
/-- M: from slots, what is wanted of the value (with a cup or without) -/
def spM (k : Nat) (M : List Slot → (PyData → Prop) → Prop) : Sp := fun vs H Q _ => ∃ m G ss Φ, vs.length = k ∧ StOk m G H ∧ SlotAll m G vs ss ∧ M ss Φ ∧ ∀ x v G' H', Φ x → Grow m G H G' H' → Dd G' v x → Q v H'
theorem fn_slots {P : Program} {w : World} {K : PySem.W.Frag} {mg : Str → Option Value} {base : Heap} {x qual : Str} {st : Stmt} {f : Addr} {fd : FuncData} {N ps : List Str} {k n : Nat} {b : PSt} (F : Fun K x qual st f fd) (S : FnScope N ps (defScope st)) (hn : N.length = ps.length + n)
    (hbody : ∀ (cdv : Value) (A : Around) (outer : List Env) (s : Shared) (H : Hp) (E : XK), Room k (A.deeper (PyProof.Rows.envOfC qual (defScope st) s.heap.objs.size f cdv)) →
      ∃ t, MSs (cxOf CX0 P w K mg base N qual (defScope st) f cdv A outer s H E).nox (defBody st) t b) : FnOk P w K mg base CX0 (k + 1) f fd ps (spM ps.length fun ss Φ => endP (b (startS n ss)) Φ) := by
  refine F.ok S (fun vs H Q E h => ?_) (fun cdv A outer s H vs Q E hr h => ?_)
  · obtain ⟨_, _, _, _, hl, _⟩ := h
    exact hl
  · obtain ⟨m, G, ss, Φ, hl, s0, hd, hF, q⟩ := h
    obtain ⟨t, ht⟩ := hbody cdv A outer s H E hr
    refine ⟨t, ht.ps, ?_⟩
    refine ht.snd m _ _ hF _ G H s0 (env_startS hd (by rw [hn, hl])) _ ⟨fun ρ σ G' H' h w' _ => q _ _ G' H' h w' .non, fun y v G' H' h w' d' => q y v G' H' h w' d', fun ρ σ G' H' h _ _ => h.elim, fun ρ σ G' H' h _ _ => h.elim⟩
end DL
/-! DL10: loops by hand over slots; a for over the keys of a dict that is not used again. -/
namespace DL
open PySem L2
open Evl (Ex)
theorem EnvOk.forget {m : Option Addr} {G : Hp} {σ : St} {ρ : DEnv} {i : Nat} {x : Option V} (h : EnvOk m G σ ρ) : EnvOk m G (σ.set i x) (ρ.set i none) := by
  refine ⟨by rw [List.length_set, List.length_set]; exact h.len, fun j t e => ?_⟩
  by_cases hj : i = j
  · subst hj
    by_cases hl : i < ρ.length
    · rw [List.getElem?_set_self hl] at e
      cases e
    · rw [List.getElem?_eq_none (by rw [List.length_set]; omega)] at e
      cases e
  · rw [List.getElem?_set_ne hj] at e ⊢
    exact h.at_ j t e
/-- a for by hand: P by the turn, the slots, the ghost heap, the heap -/
theorem raw_for {wi : TI} {tb : TS} {fi : FAa} {j : Nat} (hi : SndI wi (lift fi)) {m : Option Addr} {ρ : DEnv} {ds : List PyData} (hds : fi ρ = some ds) {σ : St} {G H : Hp} {D : Ends} (s : StOk m G H) (he : EnvOk m G σ ρ)
    (P : Nat → St → Hp → Hp → Prop) (h0 : ∀ G' H', Grow m G H G' H' → P 0 σ G' H') (st : ∀ i σ' G' H', P i σ' G' H' → StOk m G' H') (up : ∀ i σ' G' H' G2 H2, P i σ' G' H' → Grow m G' H' G2 H2 → P i σ' G2 H2)
    (hs : ∀ i d v σ' G' H' (N : St → Hp → Prop), ds[i]? = some d → P i σ' G' H' → Dd G' v d → (∀ σ2 G2 H2, Ex G' G2 → P (i + 1) σ2 G2 H2 → N σ2 H2) → tb { D with nx := N, ct := N, bk := D.nx } (σ'.set j (some v)) H')
    (hd : ∀ σ' G' H', Ex G G' → P ds.length σ' G' H' → D.nx σ' H') : tFor wi (gName j) tb D σ H := by
  refine hi m ρ (fun z => z = ds) ⟨ds, hds, rfl⟩ σ G H s he _ fun ds' J G1 H1 e w1 wk => ?_
  subst e
  refine ⟨fun i n σc Hc => n = ds'.length - i ∧ i ≤ ds'.length ∧ ∃ Gc, Ex G1 Gc ∧ P i σc Gc Hc, ⟨ds'.length, rfl, Nat.zero_le _, G1, Evl.Ex.refl G1, h0 G1 H1 w1⟩, ?_⟩
  rintro i n σc Hc ⟨rfl, hle, Gc, hx, hp⟩
  have sc := st i σc Gc Hc hp
  by_cases hlt : i < ds'.length
  · have hdi : ds'[i]? = some ds'[i] := List.getElem?_eq_getElem hlt
    refine .inr ⟨wk.goes i Gc Hc hlt hx sc, fun σn Hn => i + 1 ≤ ds'.length ∧ ∃ Gn, Ex G1 Gn ∧ P (i + 1) σn Gn Hn, fun σn Hn hn => ⟨ds'.length - (i + 1), by omega, rfl, hn⟩, fun x H' y => ?_⟩
    obtain ⟨G3, w3, d3⟩ := wk.yields i _ Gc Hc x H' hdi hx sc y
    exact hs i _ x σc G3 H' _ hdi (up i σc Gc Hc G3 H' hp w3) d3 fun σ2 G2 H2 e2 p2 => ⟨hlt, G2, hx.trans (w3.g.trans e2), p2⟩
  · have e : i = ds'.length := by omega
    subst e
    exact .inl ⟨wk.stops Gc Hc hx sc, hd σc Gc Hc (w1.g.trans hx) hp⟩

theorem hu1 {k : Nat} {A : Around} (hr : Room k A) : A.units + 1 < cLine := by
  have := hr.units
  omega
/-! ### slots as arguments -/
def SndSl (ta : TA) (ps : DEnv → (List Slot → Prop) → Prop) (n : Nat) : Prop := ∀ (m : Option Addr) (ρ : DEnv) (Φ : List Slot → Prop), ps ρ Φ → ∀ (σ : St) (G H : Hp), StOk m G H → EnvOk m G σ ρ →
  ∀ Q : List V → Hp → Prop, (∀ ss vs G' H', Φ ss → ss.length = n → Grow m G H G' H' → SlotAll m G' vs ss → Q vs H') → ta σ H Q
structure MSl (X : Cx) (es : List Expr) (ta : TA) (p : DEnv → (List Slot → Prop) → Prop) (n : Nat) : Prop where
  pa : PA X es ta
  snd : SndSl ta p n
abbrev FSl (X : Cx) (es : List Expr) (ta : TA) (f : DEnv → Option (List Slot)) (n : Nat) : Prop := MSl X es ta (lift f) n
def pslNil : DEnv → (List Slot → Prop) → Prop := fun _ Φ => Φ []
def pslD (p : PM) (q : DEnv → (List Slot → Prop) → Prop) : DEnv → (List Slot → Prop) → Prop := fun ρ Φ => p ρ fun x => q ρ fun ss => Φ (.d x :: ss)
def pslV (i : Nat) (q : DEnv → (List Slot → Prop) → Prop) : DEnv → (List Slot → Prop) → Prop := fun ρ Φ => ∃ s, ρ[i]? = some (some s) ∧ q ρ fun ss => Φ (s :: ss)
def fslNil : DEnv → Option (List Slot) := fun _ => some []
def fslD (f : FM) (g : DEnv → Option (List Slot)) : DEnv → Option (List Slot) := fun ρ => (f ρ).bind fun x => (g ρ).map fun ss => .d x :: ss
def fslV (i : Nat) (g : DEnv → Option (List Slot)) : DEnv → Option (List Slot) := fun ρ => match ρ[i]? with
  | some (some s) => (g ρ).map fun ss => s :: ss
  | _ => none
section
variable {X : Cx} {e : Expr} {es : List Expr} {te : TE} {ta : TA} {p : PM} {q : DEnv → (List Slot → Prop) → Prop} {n : Nat}
theorem MSl.imp {q' : DEnv → (List Slot → Prop) → Prop} (h : MSl X es ta q n) (i : ∀ ρ Φ, q' ρ Φ → q ρ Φ) : MSl X es ta q' n := ⟨h.pa, fun m ρ Φ z => h.snd m ρ Φ (i ρ Φ z)⟩
theorem msl_nil : MSl X [] tNil pslNil 0 := ⟨pa_nil, fun m ρ Φ h σ G H s he Q k => k [] [] G H h rfl (Grow.refl s) True.intro⟩
theorem msl_d (h1 : ME X e te p) (h2 : MSl X es ta q n) (hs : starEach (e :: es) X.env = (false, eval e X.env) :: starEach es X.env := by rfl) : MSl X (e :: es) (tCons te ta) (pslD p q) (n + 1) := by
  refine ⟨pa_cons h1.pe h2.pa hs, fun m ρ Φ h σ G H s he Q k => ?_⟩
  refine h1.snd m ρ _ h σ G H s he _ fun x v G1 H1 hx w1 d1 => ?_
  refine h2.snd m ρ _ hx σ G1 H1 w1.st (he.up w1.g) _ fun ss vs G2 H2 hs hl w2 d2 => ?_
  exact k _ _ G2 H2 hs (by rw [List.length_cons, hl]) (w1.trans w2) ⟨d1.up w2.g, d2⟩
theorem msl_v {i : Nat} (h1 : PE X e (tVar i)) (h2 : MSl X es ta q n) (hs : starEach (e :: es) X.env = (false, eval e X.env) :: starEach es X.env := by rfl) : MSl X (e :: es) (tCons (tVar i) ta) (pslV i q) (n + 1) := by
  refine ⟨pa_cons h1 h2.pa hs, fun m ρ Φ h σ G H s he Q k => ?_⟩
  obtain ⟨sl, hsl, h⟩ := h
  obtain ⟨v, hv, ok⟩ := he.at_ i sl hsl
  refine ⟨v, hv, ?_⟩
  refine h2.snd m ρ _ h σ G H s he _ fun ss vs G2 H2 hs hl w2 d2 => ?_
  exact k _ _ G2 H2 hs (by rw [List.length_cons, hl]) w2 ⟨ok.up w2.g, d2⟩
theorem fsl_nil : FSl X [] tNil fslNil 0 := msl_nil.imp fun ρ Φ ⟨z, hz, h⟩ => by cases hz; exact h
theorem fsl_d {f : FM} {g : DEnv → Option (List Slot)} (h1 : FE X e te f) (h2 : FSl X es ta g n) (hs : starEach (e :: es) X.env = (false, eval e X.env) :: starEach es X.env := by rfl) : FSl X (e :: es) (tCons te ta) (fslD f g) (n + 1) :=
  (msl_d h1 h2 hs).imp fun ρ Φ ⟨z, hz, h⟩ => by
    obtain ⟨x, hx, hz⟩ := of_bind hz
    obtain ⟨ss, hss, ez⟩ := Option.map_eq_some_iff.mp hz
    subst ez
    exact ⟨x, hx, ss, hss, h⟩
theorem fsl_v {i : Nat} {g : DEnv → Option (List Slot)} (h1 : PE X e (tVar i)) (h2 : FSl X es ta g n) (hs : starEach (e :: es) X.env = (false, eval e X.env) :: starEach es X.env := by rfl) : FSl X (e :: es) (tCons (tVar i) ta) (fslV i g) (n + 1) :=
  (msl_v h1 h2 hs).imp fun ρ Φ ⟨z, hz, h⟩ => by
    unfold fslV at hz
    split at hz
    · rename_i s hs
      obtain ⟨ss, hss, ez⟩ := Option.map_eq_some_iff.mp hz
      subst ez
      exact ⟨s, hs, ss, hss, h⟩
    · cases hz
def pCallS (M : List Slot → (PyData → Prop) → Prop) (q : DEnv → (List Slot → Prop) → Prop) : PM := fun ρ Φ => q ρ fun ss => M ss Φ
theorem snd_callS {k : Nat} {M : List Slot → (PyData → Prop) → Prop} {E : XK} (h : SndSl ta q k) : SndE (tCall (spM k M) [] E ta) (pCallS M q) := by
  intro m ρ Φ hp σ G H s he Q z
  refine h m ρ _ hp σ G H s he _ fun ss vs G1 H1 hM hl w1 d1 => ?_
  refine ⟨m, G1, ss, Φ, ?_, w1.st, by rw [List.append_nil]; exact d1, hM, fun x v G' H' hx w' d' => z x v G' H' hx (w1.trans w') d'⟩
  rw [List.append_nil, d1.len]
  exact hl
theorem me_callS {x : Str} {p pos : Pos} {k : Nat} {M : List Slot → (PyData → Prop) → Prop} {E : XK} (ha : MSl X es ta q k) (h : PA X es ta → PE X (.Call (.Name x p) es [] pos) (tCall (spM k M) [] E ta)) :
    ME X (.Call (.Name x p) es [] pos) (tCall (spM k M) [] E ta) (pCallS M q) := ⟨h ha.pa, snd_callS ha.snd⟩
end
/-- a pure one among them -/
def runS (n : Nat) (b : FSt) (ss : List Slot) : Option PyData := endD (b (startS n ss))
theorem endP_runS {n : Nat} {b : FSt} {ss : List Slot} {x : PyData} {Φ : PyData → Prop} (h : runS n b ss = some x) (k : Φ x) : endP (lift b (startS n ss)) Φ := by
  unfold runS endD at h
  split at h
  · rename_i o he
    cases h
    exact ⟨_, he, k⟩
  · rename_i ρ1 he
    cases h
    exact ⟨_, he, k⟩
  · cases h
def fCallS (n : Nat) (b : FSt) (g : DEnv → Option (List Slot)) : FM := fun ρ => (g ρ).bind (runS n b)
theorem fe_callS {X : Cx} {es : List Expr} {ta : TA} {x : Str} {p pos : Pos} {k n : Nat} {b : FSt} {g : DEnv → Option (List Slot)} {E : XK} (ha : FSl X es ta g k) (h : PA X es ta → PE X (.Call (.Name x p) es [] pos) (tCall (spM k fun ss Φ => endP (lift b (startS n ss)) Φ) [] E ta)) :
    FE X (.Call (.Name x p) es [] pos) (tCall (spM k fun ss Φ => endP (lift b (startS n ss)) Φ) [] E ta) (fCallS n b g) := (me_callS ha h).imp fun ρ Φ ⟨z, hz, hΦ⟩ => by
  obtain ⟨ss, hs, hz⟩ := of_bind hz
  exact ⟨ss, hs, endP_runS hz hΦ⟩

/-! ### (i, j) not in far -/
def fNotFar (i : Nat) (fa : FM) : FTt := fun ρ => match ρ[i]? with
  | some (some (.far f)) => (fa ρ).bind fun y => match y with
    | .tuple [.int a, .int b] => some (!(lookF f (a, b)).isSome)
    | _ => none
  | _ => none
theorem key_ne {p : (Int × Int) × Int} {a b : Int} (h : ¬ p.1 = (a, b)) : ¬ ([Sum.inl p.1.1, Sum.inl p.1.2] : List Key) = [Sum.inl a, Sum.inl b] := by
  intro e
  obtain ⟨⟨x, y⟩, z⟩ := p
  injection e with e1 e2
  injection e2 with e2 _
  injection e1 with e1
  injection e2 with e2
  exact h (Prod.ext e1 e2)
theorem val_far (a b : Int) : ∀ f : Far, valV (farK f) [Sum.inl a, Sum.inl b] = (lookF f (a, b)).map V.int
  | [] => rfl
  | p :: f => by
    rw [lookF_cons]
    show valV (([Sum.inl p.1.1, Sum.inl p.1.2], V.int p.2) :: farK f) _ = _
    by_cases e : p.1 = (a, b)
    · rw [if_pos e, valV_pos (by show [Sum.inl p.1.1, Sum.inl p.1.2] = _; rw [e])]
      rfl
    · rw [if_neg e, valV_neg (key_ne e)]
      exact val_far a b f
theorem ft_notFar {X : Cx} {i : Nat} {a b : Expr} {pos : Pos} {te : TE} {fa : FM} (hv : PE X b (tVar i)) (h1 : FE X a te fa) (hp : PE X a te → PE X b (tVar i) → PT X (.Compare a [.NotIn] [b] pos) (tB (tDNotIn te (tVar i)))) :
    FT X (.Compare a [.NotIn] [b] pos) (tB (tDNotIn te (tVar i))) (fNotFar i fa) := by
  refine ⟨hp h1.pe hv, fun m ρ Φ hp σ G H s he Q q => ?_⟩
  obtain ⟨w, hw, hΦ⟩ := hp
  unfold fNotFar at hw
  split at hw
  · rename_i fr hρ
    obtain ⟨y, hy, hw⟩ := of_bind hw
    refine h1.snd m ρ (fun t => t = y) ⟨y, hy, rfl⟩ σ G H s he _ fun y' u G1 H1 ey w1 d1 => ?_
    rw [ey] at d1
    obtain ⟨v, hv1, d, ed, gd⟩ := (he.up w1.g).at_ i _ hρ
    subst ed
    refine ⟨_, hv1, ?_⟩
    split at hw
    · rename_i i1 i2
      cases hw
      cases d1 with
      | tup e1 a1 =>
        cases a1 with
        | cons b1 bs =>
          cases bs with
          | cons b2 bs =>
            cases bs
            cases b1
            cases b2
            refine ⟨d, _, rfl, .inr ⟨_, [Sum.inl i1, Sum.inl i2], _, .inl (w1.st.ex _ _ gd), rfl, w1.st.ex _ _ e1, rfl⟩, _, rfl, ?_⟩
            have eq : (valV (farK fr) [Sum.inl i1, Sum.inl i2]).isSome = (lookF fr (i1, i2)).isSome := by
              rw [val_far]
              cases lookF fr (i1, i2) <;> rfl
            show Q (!(valV (farK fr) [Sum.inl i1, Sum.inl i2]).isSome) H1
            rw [eq]
            exact q _ G1 H1 hΦ w1
    · cases hw
  · cases hw
/-! ### less known of the slots -/
def EnvLe : DEnv → DEnv → Prop
  | [], [] => True
  | a :: as, b :: bs => (a = none ∨ a = b) ∧ EnvLe as bs
  | _, _ => False
theorem EnvLe.len : ∀ {a b : DEnv}, EnvLe a b → a.length = b.length
  | [], [], _ => rfl
  | _ :: as, _ :: bs, h => by rw [List.length_cons, List.length_cons, EnvLe.len h.2]
  | [], _ :: _, h => h.elim
  | _ :: _, [], h => h.elim
theorem EnvLe.get : ∀ {a b : DEnv} {i : Nat} {s : Slot}, EnvLe a b → a[i]? = some (some s) → b[i]? = some (some s)
  | [], [], _, _, _, e => by cases e
  | a :: as, b :: bs, 0, s, h, e => by
    cases e
    rcases h.1 with z | z
    · cases z
    · rw [← z]
      rfl
  | a :: as, b :: bs, i + 1, s, h, e => by
    rw [List.getElem?_cons_succ] at e ⊢
    exact EnvLe.get h.2 e
  | [], _ :: _, _, _, h, _ => h.elim
  | _ :: _, [], _, _, h, _ => h.elim
theorem EnvOk.le {m : Option Addr} {G : Hp} {σ : St} {ρ ρ' : DEnv} (h : EnvOk m G σ ρ) (l : EnvLe ρ' ρ) : EnvOk m G σ ρ' := ⟨l.len.trans h.len, fun i s e => h.at_ i s (l.get e)⟩
/-- a test under a hidden object -/
theorem hide_t {tt : TT} {ft : FTt} (h : SndT tt (lift ft)) {ρ : DEnv} {b : Bool} (hb : ft ρ = some b) {σ : St} {G H : Hp} {d : Addr} {u : HO} (s : StOk none G H) (gd : G d = none) (hd : H d = some u) (he : EnvOk none (upd G d u) σ ρ) {Q : Bool → Hp → Prop} (q : ∀ H', Ex H H' → StOk none G H' → Q b H') : tt σ H Q := by
  have s1 : StOk none (upd G d u) H := ⟨fun a o e => by
    by_cases ha : a = d
    · subst ha
      rw [upd_same] at e
      rw [← e]
      exact hd
    · rw [upd_ne ha] at e
      exact s.ex a o e, fun c e => nomatch e⟩
  refine h none ρ (fun z => z = b) ⟨b, hb, rfl⟩ σ _ H s1 he Q fun b' G' H' e w => ?_
  rw [e]
  exact q H' w.ex ⟨s.ex.trans w.ex, fun c e => nomatch e⟩
/-! ### for over the keys of a dict that nobody writes any more -/
def iKeysL (td : TE) : TI := fun σ H R => td σ H fun x H1 => ∃ d kvs, x = .ref d ∧ H1 d = some (.dT kvs) ∧ ∀ o, R (Itkt d o kvs) (upd H1 d (.frz o (.dT kvs)))
theorem pi_keysL {X : Cx} {tg e : Expr} {td : TE} (he : PE X e td) : PI X tg e (iKeysL td) := by
  refine ⟨fun pins s σ H R I h => ?_⟩
  refine thn (he.run pins s σ H _ I h) fun u s1 ⟨x, H1, I1, rx, d, kvs, ex, hd, q⟩ => ?_
  subst ex
  obtain rfl : u = Value.ref d := rx
  obtain ⟨o, I2⟩ := I1.lock hd True.intro
  obtain ⟨hs, hgd, hx, es, ep, hdt, hsz, ent⟩ := I2.frzT (upd_same (H := H1) (a := d))
  refine iter_keys hs hgd hx hdt (pi_one (tk := s1.toks) I2 _ (turn_keysT _ hdt) ⟨_, Heap.get?_push_size _ rfl, rfl, ?_⟩ (q o))
  rw [hsz] <;> rfl

def pairD (p : Int × Int) : PyData := .tuple [.int p.1, .int p.2]
def keysD (f : Far) : List PyData := f.map fun p => pairD p.1
theorem walkD_far {m : Option Addr} {G : Hp} {d : Addr} {o : Obj} {f : Far} (e : G d = some (.frz o (.dT (farK f)))) : WalkD m (Itkt d o (farK f)) G (keysD f) := by
  have hl : (keysD f).length = (farK f).length := by unfold keysD farK; rw [List.length_map, List.length_map]
  refine ⟨fun i G1 H1 hi g s => ⟨s.ex _ _ (g _ _ e), by rw [← hl]; exact hi⟩, fun G1 H1 g s => ⟨s.ex _ _ (g _ _ e), by rw [hl]; exact Nat.le_refl _⟩, fun i x G1 H1 v H' hx g s y => ?_⟩
  obtain ⟨rfl, k, u, q, hk, rfl, hq⟩ := y
  unfold farK at hk
  unfold keysD at hx
  rw [List.getElem?_map] at hk hx
  obtain ⟨p, hp, rfl⟩ := Option.map_eq_some_iff.mp hx
  rw [hp] at hk
  cases hk
  obtain ⟨G2, w2, h2⟩ := Grow.tup s hq
  exact ⟨G2, w2, .tup h2 (.cons (.int _) (.cons (.int _) .nil))⟩
/-- what a def over data that lays a new dict of pairs promises -/
def spFar (Ff : List PyData → Option Far) : Sp := fun vs H Q _ => ∃ G ds f, vs.length = 3 ∧ Ex G H ∧ DdAll G vs ds ∧ Ff ds = some f ∧ ∀ d H', Ex H H' → H d = none → H' d = some (.dT (farK f)) → Q (.ref d) H'
def pFarI (Ff : List PyData → Option Far) (pa : PAa) : PAa := fun ρ Φ => pa ρ fun xs => ∃ f, Ff xs = some f ∧ Φ (keysD f)
def fFarI (Ff : List PyData → Option Far) (fa : FAa) : FAa := fun ρ => (fa ρ).bind fun xs => (Ff xs).map keysD
theorem snd_farI {Ff : List PyData → Option Far} {ta : TA} {pa : PAa} {E : XK} (h : SndA ta pa 3) : SndI (iKeysL (tCall (spFar Ff) [] E ta)) (pFarI Ff pa) := by
  intro m ρ Φ hp σ G H s he R k
  refine h m ρ _ hp σ G H s he _ fun ds vs G1 H1 ⟨f, hf, hΦ⟩ hl w1 d1 => ?_
  refine ⟨G1, ds, f, by rw [List.append_nil, d1.len]; exact hl, w1.st.ex, by rw [List.append_nil]; exact d1, hf, fun d H' hx hd hd' => ?_⟩
  refine ⟨d, _, rfl, hd', fun o => ?_⟩
  have hg := w1.st.nog hd
  refine k _ _ (upd G1 d (.frz o (.dT (farK f)))) _ hΦ (w1.trans ⟨Evl.Ex.new hg, fun a u e _ => ?_, ⟨fun a u e => ?_, fun c ec => ?_⟩, fun a u e => ?_⟩) (walkD_far upd_same)
  · rw [upd_ne (ne_of_none e hd)]
    exact hx _ _ e
  · by_cases ha : a = d
    · subst ha
      rw [upd_same] at e ⊢
      exact e
    · rw [upd_ne ha] at e ⊢
      exact hx _ _ (w1.st.ex _ _ e)
  · obtain ⟨h1, x, y, h2, h3⟩ := w1.st.cup c ec
    have hc : c ≠ d := ne_of_none h2 hd
    exact ⟨by rw [upd_ne hc]; exact h1, x, y, by rw [upd_ne hc]; exact hx _ _ h2, h3⟩
  · by_cases ha : a = d
    · subst ha
      exact .inr (.inl hd)
    · rw [upd_ne ha] at e
      exact .inl ⟨u, e⟩
theorem fi_farI {X : Cx} {tg : Expr} {x : Str} {p pos : Pos} {es : List Expr} {Ff : List PyData → Option Far} {ta : TA} {fa : FAa} {E : XK} (ha : FA X es ta fa 3) (h : PA X es ta → PE X (.Call (.Name x p) es [] pos) (tCall (spFar Ff) [] E ta)) :
    FI X tg (.Call (.Name x p) es [] pos) (iKeysL (tCall (spFar Ff) [] E ta)) (fFarI Ff fa) := MI.imp ⟨pi_keysL (h ha.pa), snd_farI ha.snd⟩ fun ρ Φ ⟨z, hz, hΦ⟩ => by
  obtain ⟨xs, hx, hz⟩ := of_bind hz
  obtain ⟨f, hf, ez⟩ := Option.map_eq_some_iff.mp hz
  subst ez
  exact ⟨xs, hx, f, hf, hΦ⟩
theorem ms_par {X : Cx} {st : Stmt} {es : List Expr} {ta : TA} {pa : PAa} {n i j : Nat} (h1 : MA X es ta pa n) (h : PA X es ta → PS X st (tPar i j ta)) : MS X st (tPar i j ta) (pPar i j pa) := ⟨h h1.pa, snd_par h1.snd⟩
end DL
/-! printed by gen.py: the bodies of the pure defs over data -/
namespace DL
open PySem L2
def b_is_whole : FSt := fRet (fAndV (fIsi isIntD (fVar 0)) (fAndV (fNotV (fIsi isBoolD (fVar 0))) (fChain (cmpD fun i j => decide (i ≤ j)) (cmpD fun i j => decide (i ≤ j)) (fVar 1) (fVar 0) (fVar 2))))
def F_is_whole : List PyData → Option PyData := runF 0 b_is_whole
def b_is_row_of : FSt := fRet (fAndV (fIsi isTupD (fVar 0)) (fChain (cmpD fun i j => decide (i ≤ j)) (cmpD fun i j => decide (i ≤ j)) (fVar 1) (fCall lenF (fCons (fVar 0) (fNil))) (fVar 2)))
def F_is_row_of : List PyData → Option PyData := runF 0 b_is_row_of
def b_fits_numbers : FSt := fRet (fAndV (fCall F_is_row_of (fCons (fVar 0) (fCons (fVar 1) (fCons (fVar 1) (fNil))))) (fCall allF (fCons (fLc (fItT (fVar 0)) (pgName 3) (fYes) (fCall F_is_whole (fCons (fVar 3) (fCons (fC (.int 0)) (fCons (fVar 2) (fNil))))) [3]) (fNil))))
def F_fits_numbers : List PyData → Option PyData := runF 1 b_fits_numbers
def b_fits_showing : FSt := fSeq (fIfS (fOr (fNot (fTest (fCall F_is_row_of (fCons (fVar 0) (fCons (fC (.int 2)) (fCons (fC (.int 2)) (fNil))))))) (fOr (fNot (fTest (fCall F_is_whole (fCons (fOp ixD (fVar 0) (fC (.int 0))) (fCons (fC (.int 0)) (fCons (fC (.int 6)) (fNil))))))) (fNot (fTest (fCall F_is_row_of (fCons (fOp ixD (fVar 0) (fC (.int 1))) (fCons (fC (.int 0)) (fCons (fC (.int 12)) (fNil))))))))) (fRet (fC (.bool false))) (fNext)) (fRet (fCall allF (fCons (fLc (fItT (fOp ixD (fVar 0) (fC (.int 1)))) (pgName 1) (fYes) (fCall F_is_whole (fCons (fVar 1) (fCons (fC (.int 0)) (fCons (fOp subD (fOp ixD (fVar 0) (fC (.int 0))) (fC (.int 1))) (fNil))))) [1]) (fNil))))
def F_fits_showing : List PyData → Option PyData := runF 1 b_fits_showing
def b_fits_put : FSt := fRet (fOrV (fIsN (fVar 2)) (fAndV (fCall F_is_whole (fCons (fVar 2) (fCons (fC (.int 0)) (fCons (fOp subD (fCall lenF (fCons (fVar 0) (fNil))) (fC (.int 1))) (fNil))))) (fOp (eqD) (fOp ixD (fVar 0) (fVar 2)) (fVar 1))))
def F_fits_put : List PyData → Option PyData := runF 0 b_fits_put
def b_fits_case : FSt := fSeq (fIfS (fOr (fNot (fTest (fCall F_is_row_of (fCons (fVar 0) (fCons (fC (.int 3)) (fCons (fC (.int 3)) (fNil))))))) (fNot (fTest (fCall F_fits_showing (fCons (fOp ixD (fVar 0) (fC (.int 0))) (fNil)))))) (fRet (fC (.bool false))) (fNext)) (fSeq (fAsg (fOp ixD (fVar 0) (fC (.int 0))) (pgTup (pgCons (pgName 1) (pgCons (pgName 2) (pgNil))))) (fSeq (fIfS (fOr (fNot (fTest (fCall F_is_row_of (fCons (fOp ixD (fVar 0) (fC (.int 1))) (fCons (fCall lenF (fCons (fVar 2) (fNil))) (fCons (fCall lenF (fCons (fVar 2) (fNil))) (fNil))))))) (fNot (fTest (fCall allF (fCons (fLc (fItT (fOp ixD (fVar 0) (fC (.int 1)))) (pgName 3) (fYes) (fCall F_is_row_of (fCons (fVar 3) (fCons (fVar 1) (fCons (fVar 1) (fNil))))) [3]) (fNil)))))) (fRet (fC (.bool false))) (fNext)) (fSeq (fFor (fItT (fOp ixD (fVar 0) (fC (.int 1)))) (pgName 3) (fIfS (fNot (fTest (fCall allF (fCons (fLc (fEnum (fVar 3)) (pgTup (pgCons (pgName 4) (pgCons (pgName 5) (pgNil)))) (fYes) (fCall F_fits_put (fCons (fVar 2) (fCons (fVar 4) (fCons (fVar 5) (fNil))))) [4, 5]) (fNil))))) (fRet (fC (.bool false))) (fNext))) (fRet (fCall F_fits_numbers (fCons (fOp ixD (fVar 0) (fC (.int 2))) (fCons (fCall lenF (fCons (fVar 2) (fNil))) (fCons (fC (.int 11)) (fNil)))))))))
def F_fits_case : List PyData → Option PyData := runF 5 b_fits_case
def b_fits_lets : FSt := fSeq (fAsg (fOp subD (fOp ixD (fOp ixD (fVar 0) (fC (.int 0))) (fC (.int 0))) (fC (.int 1))) (pgName 2)) (fSeq (fIfS (fOr (fNot (fTest (fIsi isTupD (fVar 1)))) (fNot (fTest (fCall allF (fCons (fLc (fItT (fVar 1)) (pgName 3) (fYes) (fCall F_is_row_of (fCons (fVar 3) (fCons (fC (.int 2)) (fCons (fC (.int 2)) (fNil))))) [3]) (fNil)))))) (fRet (fC (.bool false))) (fNext)) (fSeq (fIfS (fNot (fTest (fCall allF (fCons (fLc (fItT (fVar 1)) (pgName 3) (fYes) (fAndV (fCall F_is_whole (fCons (fOp ixD (fVar 3) (fC (.int 0))) (fCons (fC (.int 0)) (fCons (fVar 2) (fNil))))) (fCall F_is_whole (fCons (fOp ixD (fVar 3) (fC (.int 1))) (fCons (fC (.int 0)) (fCons (fVar 2) (fNil)))))) [3]) (fNil))))) (fRet (fC (.bool false))) (fNext)) (fRet (fCall allF (fCons (fLc (fZip (fVar 1) (fFrom (fVar 1) (fC (.int 1)))) (pgTup (pgCons (pgName 4) (pgCons (pgName 5) (pgNil)))) (fYes) (fOp (ltD) (fVar 4) (fVar 5)) [4, 5]) (fNil))))))
def F_fits_lets : List PyData → Option PyData := runF 4 b_fits_lets
def b_need_case : FSt := fIfS (fNot (fTest (fCall F_fits_case (fCons (fVar 0) (fNil))))) (fNever) (fNext)
def F_need_case : List PyData → Option PyData := runF 0 b_need_case
def b_need_lets : FSt := fIfS (fNot (fTest (fCall F_fits_lets (fCons (fVar 0) (fCons (fVar 1) (fNil)))))) (fNever) (fNext)
def F_need_lets : List PyData → Option PyData := runF 0 b_need_lets
def b_need_keys : FSt := fIfS (fNot (fTest (fCall F_fits_numbers (fCons (fVar 1) (fCons (fCall lenF (fCons (fOp ixD (fOp ixD (fVar 0) (fC (.int 0))) (fC (.int 1))) (fNil))) (fCons (fC (.int 11)) (fNil))))))) (fNever) (fNext)
def F_need_keys : List PyData → Option PyData := runF 0 b_need_keys
def b_need_often : FSt := fIfS (fOr (fNot (fTest (fIsi isStrD (fVar 0)))) (fTest (fOp (notInD) (fVar 0) (fTup (fCons (fC (.str "once")) (fCons (fC (.str "always")) (fNil))))))) (fNever) (fNext)
def F_need_often : List PyData → Option PyData := runF 0 b_need_often
def b_behind : FSt := fRet (fOp ixD (fOp ixD (fOp ixD (fVar 0) (fC (.int 1))) (fVar 1)) (fOp ixD (fVar 2) (fC (.int 1))))
def F_behind : List PyData → Option PyData := runF 0 b_behind
def b_answer_of : FSt := fSeq (fAsg (fCall F_behind (fCons (fVar 0) (fCons (fVar 1) (fCons (fVar 2) (fNil))))) (pgName 3)) (fRet (fIf (fTest (fIsN (fVar 3))) (fC .none) (fOp ixD (fOp ixD (fVar 0) (fC (.int 2))) (fVar 3))))
def F_answer_of : List PyData → Option PyData := runF 1 b_answer_of
def b_changes_from : FSt := fRet (fLc (fItT (fVar 0)) (pgName 2) (fTest (fOp (eqD) (fOp ixD (fVar 2) (fC (.int 0))) (fVar 1))) (fVar 2) [2])
def F_changes_from : List PyData → Option PyData := runF 1 b_changes_from
def b_trail_between : FSt := fSeq (fPar3 5 6 7 (fCons (fOp ixD (fOp ixD (fVar 0) (fC (.int 0))) (fC (.int 1))) (fCons (fLst (fCons (fTup (fCons (fVar 2) (fCons (fVar 3) (fNil)))) (fNil))) (fCons (fLst (fCons (fTup (fCons (fVar 2) (fCons (fVar 3) (fCons (fTup (fNil)) (fNil))))) (fNil))) (fNil))))) (fSeq (fWhile 200 (fTest (fOp (neD) (fVar 7) (fLst (fNil)))) (fSeq (fAsg (fTup (fCons (fOp ixD (fVar 7) (fC (.int 0))) (fCons (fFrom (fVar 7) (fC (.int 1))) (fNil)))) (pgTup (pgCons (pgTup (pgCons (pgName 8) (pgCons (pgName 9) (pgCons (pgName 10) (pgNil))))) (pgCons (pgName 7) (pgNil))))) (fSeq (fAsg (fIf (fTest (fOp (ltD) (fCall lenF (fCons (fVar 10) (fNil))) (fVar 4))) (fCall F_changes_from (fCons (fVar 1) (fCons (fOp ixD (fVar 5) (fVar 8)) (fNil)))) (fLst (fNil))) (pgName 11)) (fSeq (fFor (fItL (fVar 11)) (pgName 12) (fIfS (fTest (fOp (neD) (fCall F_answer_of (fCons (fVar 0) (fCons (fVar 8) (fCons (fVar 12) (fNil))))) (fCall F_answer_of (fCons (fVar 0) (fCons (fVar 9) (fCons (fVar 12) (fNil))))))) (fRet (fOp addD (fVar 10) (fTup (fCons (fVar 12) (fNil))))) (fNext))) (fFor (fItL (fVar 11)) (pgName 12) (fSeq (fAsg (fTup (fCons (fCall F_behind (fCons (fVar 0) (fCons (fVar 8) (fCons (fVar 12) (fNil))))) (fCons (fCall F_behind (fCons (fVar 0) (fCons (fVar 9) (fCons (fVar 12) (fNil))))) (fNil)))) (pgName 13)) (fIfS (fAnd (fTest (fNotN (fOp ixD (fVar 13) (fC (.int 0))))) (fTest (fOp (notInD) (fVar 13) (fVar 6)))) (fPar 6 7 (fCons (fOp addD (fVar 6) (fLst (fCons (fVar 13) (fNil)))) (fCons (fOp addD (fVar 7) (fLst (fCons (fOp addD (fVar 13) (fTup (fCons (fOp addD (fVar 10) (fTup (fCons (fVar 12) (fNil)))) (fNil)))) (fNil)))) (fNil)))) (fNext)))))))) (fRet (fC .none)))
def F_trail_between : List PyData → Option PyData := runF 9 b_trail_between
def b_most_of : FSt := fRet (fIf (fTest (fOp (eqD) (fVar 0) (fC (.str "once")))) (fC (.int 1)) (fOp mulA (fC (.int 12)) (fC (.int 12))))
def F_most_of : List PyData → Option PyData := runF 0 b_most_of
def b_all_lots : FSt := fSeq (fAsg (fLst (fCons (fTup (fNil)) (fNil))) (pgName 1)) (fSeq (fFor (fRg1 (fVar 0)) (pgName 2) (fAsg (fOp addD (fVar 1) (fLc (fItL (fVar 1)) (pgName 3) (fYes) (fOp addD (fVar 3) (fTup (fCons (fVar 2) (fNil)))) [3])) (pgName 1))) (fRet (fVar 1)))
def F_all_lots : List PyData → Option PyData := runF 3 b_all_lots
def b_alike_pairs : FSt := fSeq (fAsg (fTup (fCons (fOp ixD (fOp ixD (fVar 0) (fC (.int 0))) (fC (.int 1))) (fCons (fLst (fNil)) (fNil)))) (pgTup (pgCons (pgName 2) (pgCons (pgName 3) (pgNil))))) (fSeq (fFor (fRg1 (fCall lenF (fCons (fVar 2) (fNil)))) (pgName 4) (fSeq (fAsg (fLc (fRg2 (fOp addD (fVar 4) (fC (.int 1))) (fCall lenF (fCons (fVar 2) (fNil)))) (pgName 6) (fAnd (fTest (fOp (eqD) (fOp ixD (fVar 2) (fVar 4)) (fOp ixD (fVar 2) (fVar 6)))) (fTest (fOp (eqD) (fOp ixD (fVar 1) (fVar 4)) (fOp ixD (fVar 1) (fVar 6))))) (fVar 6) [6]) (pgName 5)) (fAsg (fOp addD (fVar 3) (fLc (fItL (fVar 5)) (pgName 6) (fYes) (fTup (fCons (fVar 4) (fCons (fVar 6) (fNil)))) [6])) (pgName 3)))) (fRet (fVar 3)))
def F_alike_pairs : List PyData → Option PyData := runF 5 b_alike_pairs
def b_first_apart : FSt := fSeq (fFor (fItL (fCall F_alike_pairs (fCons (fVar 0) (fCons (fVar 2) (fNil))))) (pgTup (pgCons (pgName 4) (pgCons (pgName 5) (pgNil)))) (fSeq (fAsg (fCall F_trail_between (fCons (fVar 0) (fCons (fVar 1) (fCons (fVar 4) (fCons (fVar 5) (fCons (fCall F_most_of (fCons (fVar 3) (fNil))) (fNil))))))) (pgName 6)) (fIfS (fTest (fNotN (fVar 6))) (fRet (fTup (fCons (fVar 4) (fCons (fVar 5) (fCons (fVar 6) (fNil)))))) (fNext)))) (fRet (fC .none))
def F_first_apart : List PyData → Option PyData := runF 3 b_first_apart
def b_hold : FSt := fRet (fIsN (fCall F_first_apart (fCons (fVar 0) (fCons (fVar 1) (fCons (fVar 2) (fCons (fVar 3) (fNil)))))))
def F_hold : List PyData → Option PyData := runF 0 b_hold
def b_keys_hold : FSt := fSeq (fDrop (fCall F_need_case (fCons (fVar 0) (fNil)))) (fSeq (fDrop (fCall F_need_lets (fCons (fVar 0) (fCons (fVar 1) (fNil))))) (fSeq (fDrop (fCall F_need_keys (fCons (fVar 0) (fCons (fVar 2) (fNil))))) (fSeq (fDrop (fCall F_need_often (fCons (fVar 3) (fNil)))) (fRet (fCall F_hold (fCons (fVar 0) (fCons (fVar 1) (fCons (fVar 2) (fCons (fVar 3) (fNil))))))))))
def F_keys_hold : List PyData → Option PyData := runF 0 b_keys_hold
def b_is_once : FSt := fSeq (fAsg (fLc (fItL (fVar 1)) (pgName 4) (fTest (fOp (eqD) (fOp ixD (fOp ixD (fOp ixD (fVar 0) (fC (.int 0))) (fC (.int 1))) (fOp ixD (fVar 4) (fC (.int 0)))) (fOp ixD (fVar 2) (fC (.int 0))))) (fVar 4) [4]) (pgName 3)) (fRet (fCall allF (fCons (fLc (fItL (fVar 3)) (pgTup (pgCons (pgName 5) (pgCons (pgName 6) (pgNil)))) (fYes) (fOp (eqD) (fCall F_answer_of (fCons (fVar 0) (fCons (fVar 5) (fCons (fVar 2) (fNil))))) (fCall F_answer_of (fCons (fVar 0) (fCons (fVar 6) (fCons (fVar 2) (fNil)))))) [5, 6]) (fNil))))
def F_is_once : List PyData → Option PyData := runF 4 b_is_once
def b_lets_once : FSt := fSeq (fDrop (fCall F_need_case (fCons (fVar 0) (fNil)))) (fSeq (fDrop (fCall F_need_keys (fCons (fVar 0) (fCons (fVar 1) (fNil))))) (fSeq (fAsg (fTup (fCons (fCall F_alike_pairs (fCons (fVar 0) (fCons (fVar 1) (fNil)))) (fCons (fLstRg (fOp ixD (fOp ixD (fVar 0) (fC (.int 0))) (fC (.int 0)))) (fNil)))) (pgTup (pgCons (pgName 2) (pgCons (pgName 3) (pgNil))))) (fRet (fCall tupleF (fCons (fLc2 (fItL (fVar 3)) (pgName 4) (fYes) (fItL (fVar 3)) (pgName 5) (fTest (fCall F_is_once (fCons (fVar 0) (fCons (fVar 2) (fCons (fTup (fCons (fVar 4) (fCons (fVar 5) (fNil)))) (fNil)))))) (fTup (fCons (fVar 4) (fCons (fVar 5) (fNil)))) [4, 5] [5]) (fNil))))))
def F_lets_once : List PyData → Option PyData := runF 4 b_lets_once
def b_lets_always : FSt := fSeq (fDrop (fCall F_need_case (fCons (fVar 0) (fNil)))) (fSeq (fDrop (fCall F_need_keys (fCons (fVar 0) (fCons (fVar 1) (fNil))))) (fSeq (fDrop (fCall F_need_lets (fCons (fVar 0) (fCons (fVar 2) (fNil))))) (fSeq (fIfS (fTest (fOp (cmpD fun i j => decide (j < i)) (fCall lenF (fCons (fVar 2) (fNil))) (fC (.int 6)))) (fNever) (fNext)) (fSeq (fAsg (fLc (fItL (fCall F_all_lots (fCons (fCall lenF (fCons (fVar 2) (fNil))) (fNil)))) (pgName 6) (fYes) (fCall tupleF (fCons (fLc (fItT (fVar 6)) (pgName 7) (fYes) (fOp ixD (fVar 2) (fVar 7)) [7]) (fNil))) [6]) (pgName 3)) (fSeq (fAsg (fLc (fItL (fVar 3)) (pgName 8) (fTest (fCall F_hold (fCons (fVar 0) (fCons (fVar 8) (fCons (fVar 1) (fCons (fC (.str "always")) (fNil))))))) (fVar 8) [8]) (pgName 4)) (fSeq (fAsg (fLc (fItL (fVar 4)) (pgName 8) (fTest (fCall anyF (fCons (fLc (fItL (fVar 4)) (pgName 9) (fYes) (fAndV (fOp (neD) (fVar 8) (fVar 9)) (fCall allF (fCons (fLc (fItT (fVar 8)) (pgName 10) (fYes) (fOp (inD) (fVar 10) (fVar 9)) [10]) (fNil)))) [9]) (fNil)))) (fVar 8) [8]) (pgName 5)) (fRet (fCall sortF (fCons (fLc (fItL (fVar 4)) (pgName 8) (fTest (fOp (notInD) (fVar 8) (fVar 5))) (fVar 8) [8]) (fNil))))))))))
def F_lets_always : List PyData → Option PyData := runF 8 b_lets_always
def b_law_changes : FSt := fSeq (fAsg (fLst (fNil)) (pgName 1)) (fSeq (fFor (fRg1 (fVar 0)) (pgName 2) (fAsg (fOp addD (fVar 1) (fLc (fRg1 (fVar 0)) (pgName 3) (fYes) (fTup (fCons (fVar 2) (fCons (fVar 3) (fNil)))) [3])) (pgName 1))) (fRet (fVar 1)))
def F_law_changes : List PyData → Option PyData := runF 3 b_law_changes
def b_law_behind : FSt := fRet (fOp ixD (fOp ixD (fOp ixD (fVar 0) (fC (.int 1))) (fVar 1)) (fOp ixD (fVar 2) (fC (.int 1))))
def F_law_behind : List PyData → Option PyData := runF 0 b_law_behind
def b_law_answer : FSt := fSeq (fAsg (fCall F_law_behind (fCons (fVar 0) (fCons (fVar 1) (fCons (fVar 2) (fNil))))) (pgName 3)) (fRet (fIf (fTest (fIsN (fVar 3))) (fC .none) (fOp ixD (fOp ixD (fVar 0) (fC (.int 2))) (fVar 3))))
def F_law_answer : List PyData → Option PyData := runF 1 b_law_answer
def b_law_w : FSt := fSeq (fAsg (fTup (fCons (fTup (fCons (fC (.int 2)) (fCons (fTup (fCons (fC (.int 0)) (fCons (fC (.int 0)) (fCons (fC (.int 1)) (fCons (fC (.int 1)) (fNil)))))) (fNil)))) (fCons (fTup (fCons (fTup (fCons (fC (.int 0)) (fCons (fC (.int 2)) (fNil)))) (fCons (fTup (fCons (fC (.int 1)) (fCons (fC (.int 3)) (fNil)))) (fCons (fTup (fCons (fC (.int 0)) (fCons (fC (.int 2)) (fNil)))) (fCons (fTup (fCons (fC (.int 1)) (fCons (fC .none) (fNil)))) (fNil)))))) (fCons (fTup (fCons (fC (.int 0)) (fCons (fC (.int 0)) (fCons (fC (.int 1)) (fCons (fC (.int 1)) (fNil)))))) (fNil))))) (pgName 0)) (fRet (fTup (fCons (fVar 0) (fCons (fTup (fCons (fTup (fCons (fC (.int 0)) (fCons (fC (.int 1)) (fNil)))) (fCons (fTup (fCons (fC (.int 1)) (fCons (fC (.int 0)) (fNil)))) (fCons (fTup (fCons (fC (.int 1)) (fCons (fC (.int 1)) (fNil)))) (fNil))))) (fNil)))))
def F_law_w : List PyData → Option PyData := runF 1 b_law_w
def b_law_line : FSt := fSeq (fAsg (fCall tupleF (fCons (fLc (fRg1 (fVar 0)) (pgName 3) (fYes) (fCall minF (fCons (fOp addD (fVar 3) (fC (.int 1))) (fCons (fOp subD (fVar 0) (fC (.int 1))) (fNil)))) [3]) (fNil))) (pgName 1)) (fSeq (fAsg (fCall tupleF (fCons (fLc (fItT (fVar 1)) (pgName 3) (fYes) (fTup (fCons (fVar 3) (fNil))) [3]) (fNil))) (pgName 2)) (fRet (fTup (fCons (fTup (fCons (fC (.int 1)) (fCons (fOp mulA (fTup (fCons (fC (.int 0)) (fNil))) (fVar 0)) (fNil)))) (fCons (fVar 2) (fCons (fOp addD (fOp mulA (fTup (fCons (fC (.int 0)) (fNil))) (fOp subD (fVar 0) (fC (.int 1)))) (fTup (fCons (fC (.int 1)) (fNil)))) (fNil)))))))
def F_law_line : List PyData → Option PyData := runF 3 b_law_line
end DL
/-! printed by gen.py: the defs by places, what the top leaves of them -/
namespace DL
open PySem L2
def topS (i : Nat) : Stmt := PySem.Challenge.pw_puttingback_k33_whole_changes_that_can_b.main.body.getD i (.Pass ⟨0, 0, 0, 0⟩)
abbrev s_is_whole : Stmt := topS 8
abbrev s_is_row_of : Stmt := topS 9
abbrev s_fits_numbers : Stmt := topS 16
abbrev s_fits_showing : Stmt := topS 17
abbrev s_fits_put : Stmt := topS 18
abbrev s_fits_case : Stmt := topS 19
abbrev s_fits_lets : Stmt := topS 20
abbrev s_need_case : Stmt := topS 21
abbrev s_need_lets : Stmt := topS 22
abbrev s_need_keys : Stmt := topS 23
abbrev s_need_often : Stmt := topS 24
abbrev s_behind : Stmt := topS 25
abbrev s_answer_of : Stmt := topS 26
abbrev s_changes_from : Stmt := topS 27
abbrev s_trail_between : Stmt := topS 28
abbrev s_most_of : Stmt := topS 29
abbrev s_all_lots : Stmt := topS 31
abbrev s_alike_pairs : Stmt := topS 33
abbrev s_first_apart : Stmt := topS 34
abbrev s_hold : Stmt := topS 35
abbrev s_keys_hold : Stmt := topS 36
abbrev s_is_once : Stmt := topS 39
abbrev s_lets_once : Stmt := topS 40
abbrev s_lets_always : Stmt := topS 41
abbrev s_law_cup : Stmt := topS 43
abbrev s_law_roll : Stmt := topS 44
abbrev s_law_some : Stmt := topS 45
abbrev s_law_case : Stmt := topS 46
abbrev s_law_changes : Stmt := topS 47
abbrev s_law_keys : Stmt := topS 49
abbrev s_law_behind : Stmt := topS 50
abbrev s_law_answer : Stmt := topS 51
abbrev s_law_far : Stmt := topS 52
abbrev s_law_is_near : Stmt := topS 53
abbrev s_law_w : Stmt := topS 55
abbrev s_law_line : Stmt := topS 56
abbrev s_law_holds : Stmt := topS 57
abbrev s_law_greatest : Stmt := topS 58
abbrev s_law_right : Stmt := topS 59
abbrev s_law : Stmt := topS 60
theorem boot_absX : bootBuiltins "abs" = some (.builtin "abs") := by decide +kernel
theorem boot_allX : bootBuiltins "all" = some (.builtin "all") := by decide +kernel
theorem boot_anyX : bootBuiltins "any" = some (.builtin "any") := by decide +kernel
theorem boot_boolX : bootBuiltins "bool" = some (.type "bool") := by decide +kernel
theorem boot_enumerateX : bootBuiltins "enumerate" = some (.type "enumerate") := by decide +kernel
theorem boot_intX : bootBuiltins "int" = some (.type "int") := by decide +kernel
theorem boot_isinstanceX : bootBuiltins "isinstance" = some (.builtin "isinstance") := by decide +kernel
theorem boot_lenX : bootBuiltins "len" = some (.builtin "len") := by decide +kernel
theorem boot_listX : bootBuiltins "list" = some (.type "list") := by decide +kernel
theorem boot_minX : bootBuiltins "min" = some (.builtin "min") := by decide +kernel
theorem boot_rangeX : bootBuiltins "range" = some (.type "range") := by decide +kernel
theorem boot_sortedX : bootBuiltins "sorted" = some (.builtin "sorted") := by decide +kernel
theorem boot_strX : bootBuiltins "str" = some (.type "str") := by decide +kernel
theorem boot_tupleX : bootBuiltins "tuple" = some (.type "tuple") := by decide +kernel
theorem boot_zipX : bootBuiltins "zip" = some (.type "zip") := by decide +kernel
structure Txt (K : PySem.W.Frag) (mg : Str → Option Value) where
  a_is_whole : Addr
  fd_is_whole : FuncData
  F_is_whole : Fun K "is_whole" "is_whole" s_is_whole a_is_whole fd_is_whole
  m_is_whole : mg "is_whole" = some (.ref a_is_whole)
  b_is_whole : Binds K fd_is_whole ["value", "low", "high"] []
  a_is_row_of : Addr
  fd_is_row_of : FuncData
  F_is_row_of : Fun K "is_row_of" "is_row_of" s_is_row_of a_is_row_of fd_is_row_of
  m_is_row_of : mg "is_row_of" = some (.ref a_is_row_of)
  b_is_row_of : Binds K fd_is_row_of ["value", "low", "high"] []
  a_fits_numbers : Addr
  fd_fits_numbers : FuncData
  F_fits_numbers : Fun K "fits_numbers" "fits_numbers" s_fits_numbers a_fits_numbers fd_fits_numbers
  m_fits_numbers : mg "fits_numbers" = some (.ref a_fits_numbers)
  b_fits_numbers : Binds K fd_fits_numbers ["value", "many", "greatest"] []
  a_fits_showing : Addr
  fd_fits_showing : FuncData
  F_fits_showing : Fun K "fits_showing" "fits_showing" s_fits_showing a_fits_showing fd_fits_showing
  m_fits_showing : mg "fits_showing" = some (.ref a_fits_showing)
  b_fits_showing : Binds K fd_fits_showing ["value"] []
  a_fits_put : Addr
  fd_fits_put : FuncData
  F_fits_put : Fun K "fits_put" "fits_put" s_fits_put a_fits_put fd_fits_put
  m_fits_put : mg "fits_put" = some (.ref a_fits_put)
  b_fits_put : Binds K fd_fits_put ["row", "worth", "value"] []
  a_fits_case : Addr
  fd_fits_case : FuncData
  F_fits_case : Fun K "fits_case" "fits_case" s_fits_case a_fits_case fd_fits_case
  m_fits_case : mg "fits_case" = some (.ref a_fits_case)
  b_fits_case : Binds K fd_fits_case ["value"] []
  a_fits_lets : Addr
  fd_fits_lets : FuncData
  F_fits_lets : Fun K "fits_lets" "fits_lets" s_fits_lets a_fits_lets fd_fits_lets
  m_fits_lets : mg "fits_lets" = some (.ref a_fits_lets)
  b_fits_lets : Binds K fd_fits_lets ["case", "value"] []
  a_need_case : Addr
  fd_need_case : FuncData
  F_need_case : Fun K "need_case" "need_case" s_need_case a_need_case fd_need_case
  m_need_case : mg "need_case" = some (.ref a_need_case)
  b_need_case : Binds K fd_need_case ["value"] []
  a_need_lets : Addr
  fd_need_lets : FuncData
  F_need_lets : Fun K "need_lets" "need_lets" s_need_lets a_need_lets fd_need_lets
  m_need_lets : mg "need_lets" = some (.ref a_need_lets)
  b_need_lets : Binds K fd_need_lets ["case", "value"] []
  a_need_keys : Addr
  fd_need_keys : FuncData
  F_need_keys : Fun K "need_keys" "need_keys" s_need_keys a_need_keys fd_need_keys
  m_need_keys : mg "need_keys" = some (.ref a_need_keys)
  b_need_keys : Binds K fd_need_keys ["case", "value"] []
  a_need_often : Addr
  fd_need_often : FuncData
  F_need_often : Fun K "need_often" "need_often" s_need_often a_need_often fd_need_often
  m_need_often : mg "need_often" = some (.ref a_need_often)
  b_need_often : Binds K fd_need_often ["value"] []
  a_behind : Addr
  fd_behind : FuncData
  F_behind : Fun K "behind" "behind" s_behind a_behind fd_behind
  m_behind : mg "behind" = some (.ref a_behind)
  b_behind : Binds K fd_behind ["case", "thing", "change"] []
  a_answer_of : Addr
  fd_answer_of : FuncData
  F_answer_of : Fun K "answer_of" "answer_of" s_answer_of a_answer_of fd_answer_of
  m_answer_of : mg "answer_of" = some (.ref a_answer_of)
  b_answer_of : Binds K fd_answer_of ["case", "thing", "change"] []
  a_changes_from : Addr
  fd_changes_from : FuncData
  F_changes_from : Fun K "changes_from" "changes_from" s_changes_from a_changes_from fd_changes_from
  m_changes_from : mg "changes_from" = some (.ref a_changes_from)
  b_changes_from : Binds K fd_changes_from ["lets", "worth"] []
  a_trail_between : Addr
  fd_trail_between : FuncData
  F_trail_between : Fun K "trail_between" "trail_between" s_trail_between a_trail_between fd_trail_between
  m_trail_between : mg "trail_between" = some (.ref a_trail_between)
  b_trail_between : Binds K fd_trail_between ["case", "lets", "one", "other", "most"] []
  a_most_of : Addr
  fd_most_of : FuncData
  F_most_of : Fun K "most_of" "most_of" s_most_of a_most_of fd_most_of
  m_most_of : mg "most_of" = some (.ref a_most_of)
  b_most_of : Binds K fd_most_of ["often"] []
  a_all_lots : Addr
  fd_all_lots : FuncData
  F_all_lots : Fun K "all_lots" "all_lots" s_all_lots a_all_lots fd_all_lots
  m_all_lots : mg "all_lots" = some (.ref a_all_lots)
  b_all_lots : Binds K fd_all_lots ["many"] []
  a_alike_pairs : Addr
  fd_alike_pairs : FuncData
  F_alike_pairs : Fun K "alike_pairs" "alike_pairs" s_alike_pairs a_alike_pairs fd_alike_pairs
  m_alike_pairs : mg "alike_pairs" = some (.ref a_alike_pairs)
  b_alike_pairs : Binds K fd_alike_pairs ["case", "keys"] []
  a_first_apart : Addr
  fd_first_apart : FuncData
  F_first_apart : Fun K "first_apart" "first_apart" s_first_apart a_first_apart fd_first_apart
  m_first_apart : mg "first_apart" = some (.ref a_first_apart)
  b_first_apart : Binds K fd_first_apart ["case", "lets", "keys", "often"] []
  a_hold : Addr
  fd_hold : FuncData
  F_hold : Fun K "hold" "hold" s_hold a_hold fd_hold
  m_hold : mg "hold" = some (.ref a_hold)
  b_hold : Binds K fd_hold ["case", "lets", "keys", "often"] []
  a_keys_hold : Addr
  fd_keys_hold : FuncData
  F_keys_hold : Fun K "keys_hold" "keys_hold" s_keys_hold a_keys_hold fd_keys_hold
  m_keys_hold : mg "keys_hold" = some (.ref a_keys_hold)
  b_keys_hold : Binds K fd_keys_hold ["case", "lets", "keys", "often"] []
  a_is_once : Addr
  fd_is_once : FuncData
  F_is_once : Fun K "is_once" "is_once" s_is_once a_is_once fd_is_once
  m_is_once : mg "is_once" = some (.ref a_is_once)
  b_is_once : Binds K fd_is_once ["case", "pairs", "change"] []
  a_lets_once : Addr
  fd_lets_once : FuncData
  F_lets_once : Fun K "lets_once" "lets_once" s_lets_once a_lets_once fd_lets_once
  m_lets_once : mg "lets_once" = some (.ref a_lets_once)
  b_lets_once : Binds K fd_lets_once ["case", "keys"] []
  a_lets_always : Addr
  fd_lets_always : FuncData
  F_lets_always : Fun K "lets_always" "lets_always" s_lets_always a_lets_always fd_lets_always
  m_lets_always : mg "lets_always" = some (.ref a_lets_always)
  b_lets_always : Binds K fd_lets_always ["case", "keys", "lets"] []
  a_law_cup : Addr
  fd_law_cup : FuncData
  F_law_cup : Fun K "_law_cup" "_law_cup" s_law_cup a_law_cup fd_law_cup
  m_law_cup : mg "_law_cup" = some (.ref a_law_cup)
  b_law_cup : Binds K fd_law_cup ["_law_script"] []
  a_law_roll : Addr
  fd_law_roll : FuncData
  F_law_roll : Fun K "_law_roll" "_law_roll" s_law_roll a_law_roll fd_law_roll
  m_law_roll : mg "_law_roll" = some (.ref a_law_roll)
  b_law_roll : Binds K fd_law_roll ["_law_cup_here", "_law_many"] []
  a_law_some : Addr
  fd_law_some : FuncData
  F_law_some : Fun K "_law_some" "_law_some" s_law_some a_law_some fd_law_some
  m_law_some : mg "_law_some" = some (.ref a_law_some)
  b_law_some : Binds K fd_law_some ["_law_cup_here", "_law_things"] []
  a_law_case : Addr
  fd_law_case : FuncData
  F_law_case : Fun K "_law_case" "_law_case" s_law_case a_law_case fd_law_case
  m_law_case : mg "_law_case" = some (.ref a_law_case)
  b_law_case : Binds K fd_law_case ["_law_cup_here"] []
  a_law_changes : Addr
  fd_law_changes : FuncData
  F_law_changes : Fun K "_law_changes" "_law_changes" s_law_changes a_law_changes fd_law_changes
  m_law_changes : mg "_law_changes" = some (.ref a_law_changes)
  b_law_changes : Binds K fd_law_changes ["_law_many"] []
  a_law_keys : Addr
  fd_law_keys : FuncData
  F_law_keys : Fun K "_law_keys" "_law_keys" s_law_keys a_law_keys fd_law_keys
  m_law_keys : mg "_law_keys" = some (.ref a_law_keys)
  b_law_keys : Binds K fd_law_keys ["_law_cup_here", "_law_case_here"] []
  a_law_behind : Addr
  fd_law_behind : FuncData
  F_law_behind : Fun K "_law_behind" "_law_behind" s_law_behind a_law_behind fd_law_behind
  m_law_behind : mg "_law_behind" = some (.ref a_law_behind)
  b_law_behind : Binds K fd_law_behind ["_law_case_here", "_law_thing", "_law_change"] []
  a_law_answer : Addr
  fd_law_answer : FuncData
  F_law_answer : Fun K "_law_answer" "_law_answer" s_law_answer a_law_answer fd_law_answer
  m_law_answer : mg "_law_answer" = some (.ref a_law_answer)
  b_law_answer : Binds K fd_law_answer ["_law_case_here", "_law_thing", "_law_change"] []
  a_law_far : Addr
  fd_law_far : FuncData
  F_law_far : Fun K "_law_far" "_law_far" s_law_far a_law_far fd_law_far
  m_law_far : mg "_law_far" = some (.ref a_law_far)
  b_law_far : Binds K fd_law_far ["_law_case_here", "_law_lets_here", "_law_most"] []
  a_law_is_near : Addr
  fd_law_is_near : FuncData
  F_law_is_near : Fun K "_law_is_near" "_law_is_near" s_law_is_near a_law_is_near fd_law_is_near
  m_law_is_near : mg "_law_is_near" = some (.ref a_law_is_near)
  b_law_is_near : Binds K fd_law_is_near ["_law_case_here", "_law_lets_here", "_law_far_here", "_law_one", "_law_two", "_law_turn"] []
  a_law_w : Addr
  fd_law_w : FuncData
  F_law_w : Fun K "_law_w" "_law_w" s_law_w a_law_w fd_law_w
  m_law_w : mg "_law_w" = some (.ref a_law_w)
  b_law_w : Binds K fd_law_w [] []
  a_law_line : Addr
  fd_law_line : FuncData
  F_law_line : Fun K "_law_line" "_law_line" s_law_line a_law_line fd_law_line
  m_law_line : mg "_law_line" = some (.ref a_law_line)
  b_law_line : Binds K fd_law_line ["_law_many"] []
  a_law_holds : Addr
  fd_law_holds : FuncData
  F_law_holds : Fun K "_law_holds" "_law_holds" s_law_holds a_law_holds fd_law_holds
  m_law_holds : mg "_law_holds" = some (.ref a_law_holds)
  b_law_holds : Binds K fd_law_holds ["_law_case_here", "_law_lets_here", "_law_keys_here", "_law_most"] []
  a_law_greatest : Addr
  fd_law_greatest : FuncData
  F_law_greatest : Fun K "_law_greatest" "_law_greatest" s_law_greatest a_law_greatest fd_law_greatest
  m_law_greatest : mg "_law_greatest" = some (.ref a_law_greatest)
  b_law_greatest : Binds K fd_law_greatest ["_law_case_here", "_law_lets_here", "_law_keys_here"] []
  a_law_right : Addr
  fd_law_right : FuncData
  F_law_right : Fun K "_law_right" "_law_right" s_law_right a_law_right fd_law_right
  m_law_right : mg "_law_right" = some (.ref a_law_right)
  b_law_right : Binds K fd_law_right ["_law_cup_here", "_law_case_here", "_law_keys_here"] []
  a_law : Addr
  fd_law : FuncData
  F_law : Fun K "law" "law" s_law a_law fd_law
  m_law : mg "law" = some (.ref a_law)
  b_law : Binds K fd_law ["_law_script"] []
  t_WORTHS : Tok
  m_WORTHS : mg "WORTHS" = some (.int 6 t_WORTHS)
  t_THINGS : Tok
  m_THINGS : mg "THINGS" = some (.int 12 t_THINGS)
  t_STAY : Tok
  m_STAY : mg "STAY" = some (.int 11 t_STAY)
  t_ONCE : Tok
  m_ONCE : mg "ONCE" = some (.str "once" t_ONCE)
  t_ALWAYS : Tok
  m_ALWAYS : mg "ALWAYS" = some (.str "always" t_ALWAYS)
  t_MOST : Tok
  m_MOST : mg "MOST" = some (.int 6 t_MOST)
  n_abs : mg "abs" = none
  n_all : mg "all" = none
  n_any : mg "any" = none
  n_bool : mg "bool" = none
  n_enumerate : mg "enumerate" = none
  n_int : mg "int" = none
  n_isinstance : mg "isinstance" = none
  n_len : mg "len" = none
  n_list : mg "list" = none
  n_min : mg "min" = none
  n_range : mg "range" = none
  n_sorted : mg "sorted" = none
  n_str : mg "str" = none
  n_tuple : mg "tuple" = none
  n_zip : mg "zip" = none
end DL
/-! R1: the cup and the roll. -/
namespace DL
open PySem L2
open Evl (Ex Ev)
section
variable {K : PySem.W.Frag} {σ : St} {H : Hp} {ta tb : TE} {x y v : V} {i j : Int}
theorem rv_ixA {p : Addr} {xs : List V} (h : H p = some (.lst xs)) (ha : atI xs i = some v) : Evl.RV (rIxA K) (.ref p) (.int i) H v := fun H1 e Q q => Or.inl (Evl.rv_ixL (Evl.sq_of h) ha H1 e Q q)
theorem rv_addA : Evl.RV (rAddA K) (.int i) (.int j) H (.int (i + j)) := fun H1 e Q q => Or.inl ⟨i, j, rfl, rfl, q H1 (Ex.refl H1)⟩
abbrev rIntC : List V → Hp → VK → Prop := fun xs H Q => (∃ i, xs = [.int i] ∧ Q (.int i) H) ∨ ∃ k, xs = [.bl k] ∧ Q (.int (if k then 1 else 0)) H
theorem ev_intC (h : Ev ta σ H (.int i)) : Ev (tCB rIntC (tCons ta tNil)) σ H (.int i) := Evl.ev_cb (Evl.ea_cons h Evl.ea_nil) fun H1 _ Q q => Or.inl ⟨i, rfl, q H1 (Ex.refl H1)⟩
end
abbrev rollM : List Slot → (PyData → Prop) → Prop := fun ss Φ => ∃ many : Int, ss = [.cup, .d (.int many)] ∧ 0 < many ∧ many < 1000000 ∧ ∀ k : Int, 0 ≤ k → k < many → Φ (.int k)
theorem fmod_pos {i j : Int} (h : 0 < j) : 0 ≤ i.fmod j ∧ i.fmod j < j := by
  rw [Int.fmod_eq_emod_of_nonneg i (by omega)]
  exact ⟨Int.emod_nonneg i (by omega), Int.emod_lt_of_pos i h⟩
abbrev N_law_roll : List Str := ["_law_cup_here", "_law_many", "_law_found", "_law_deep"]
theorem sc_law_roll : FnScope N_law_roll ["_law_cup_here", "_law_many"] (defScope s_law_roll) := ⟨rfl, rfl, rfl, by decide +kernel, rfl, by decide +kernel, by decide +kernel⟩
section
variable {P : Program} {w : World} {K : PySem.W.Frag} {mg : Str → Option Value} {base : Heap}
theorem cup_put {m : Option Addr} {G H H1 : Hp} {c : Addr} {a b : Int} (s : StOk m G H) (hm : m = some c) (x : ∀ p o, p ≠ c → H p = some o → H1 p = some o) (h : H1 c = some (.lst [.int a, .int b])) (hb : 0 ≤ b ∧ b < 4294967296) : Grow m G H G H1 := by
  obtain ⟨gc, a0, b0, hc, _⟩ := s.cup c hm
  refine ⟨Ex.refl G, fun p o e n => ?_, ⟨fun p o e => ?_, fun c' e => ?_⟩, fun p o e => .inl ⟨o, e⟩⟩
  · have hp : p ≠ c := fun z => n (by rw [z]; exact hm)
    exact x _ _ hp e
  · have hp : p ≠ c := fun z => by
      rw [z, gc] at e
      cases e
    exact x _ _ hp (s.ex _ _ e)
  · rw [hm] at e
    cases e
    exact ⟨gc, a, b, h, hb⟩
theorem upd_oth {H H1 : Hp} {c : Addr} {u : HO} (x : ∀ p o, p ≠ c → H p = some o → H1 p = some o) : ∀ p o, p ≠ c → H p = some o → upd H1 c u p = some o := fun p o n e => by
  rw [upd_ne n]
  exact x p o n e
theorem ok_law_roll (T : Txt K mg) : FnOk P w K mg base CX0 1 T.a_law_roll T.fd_law_roll ["_law_cup_here", "_law_many"] (spM 2 rollM) := by
  refine T.F_law_roll.ok sc_law_roll (fun vs H Q E h => ?_) (fun cdv A outer s H vs Q E hr h => ?_)
  · obtain ⟨_, _, _, _, hl, _⟩ := h
    exact hl
  · obtain ⟨m, G, ss, Φ, hl, st, hd, ⟨many, hss, h1, h2, hΦ⟩, q⟩ := h
    subst hss
    obtain ⟨v1, v2, rfl⟩ : ∃ v1 v2, vs = [v1, v2] := by
      match vs, hl with
      | [v1, v2], _ => exact ⟨v1, v2, rfl⟩
    obtain ⟨⟨c, hm, rfl⟩, hv2, _⟩ := hd
    cases hv2
    obtain ⟨gc, a, b, hc, hb⟩ := st.cup c hm
    have out : ∀ (k a' b' : Int) (H1 : Hp), 0 ≤ k → k < many → (∀ p o, p ≠ c → H p = some o → H1 p = some o) → H1 c = some (.lst [.int a', .int b']) → 0 ≤ b' ∧ b' < 4294967296 → Q (.int k) H1 := fun k a' b' H1 k1 k2 x h1' hb' =>
      q (.int k) (.int k) G _ (hΦ k k1 k2) (cup_put st hm x h1' hb') (.int k)
    have nz : many ≠ 0 := by omega
    refine ⟨_, pss_cons (ps_if (pt_cmpR op_gt (pe_ix ix_A (pv 0) pe_int (fun _ _ => rfl)) pe_int (nomark _))
        (pss_cons (ps_set (i := 2) sc_law_roll.nd rfl (Or.inl rfl) (pe_op op_modN (pe_callTy call_int1 (by rfl) T.n_int boot_intX (pa_cons (pe_ix ix_A (pv 0) pe_int (fun _ _ => rfl)) pa_nil)) (pv 1)))
        (pss_cons (ps_asg (pe_op op_fdivN (pe_ix ix_A (pv 0) pe_int (fun _ _ => rfl)) (pv 1)) (pg_sub (pv 0) pe_int set_list))
        (pss_one (ps_ret (pv 2))))) pss_nil)
      (pss_cons (ps_asg (pe_op op_modN (pe_callTy call_int1 (by rfl) T.n_int boot_intX (pa_cons (pe_op op_addA (pe_op op_mul (pe_ix ix_A (pv 0) pe_int (fun _ _ => rfl)) pe_int) pe_int) pa_nil)) pe_int) (pg_sub (pv 0) pe_int set_list))
      (pss_cons (ps_set (i := 3) sc_law_roll.nd rfl (Or.inl rfl) (pe_op op_modN (pe_callTy call_int1 (by rfl) T.n_int boot_intX (pa_cons (pe_op op_mul (pe_ix ix_A (pv 0) pe_int (fun _ _ => rfl)) (pe_op op_addA (pe_ix ix_A (pv 0) pe_int (fun _ _ => rfl)) pe_int)) pa_nil)) pe_int))
      (pss_one (ps_ret (pe_op op_modN (pe_callTy call_int1 (by rfl) T.n_int boot_intX (pa_cons (pe_op op_fdivN (pv 3) pe_int) pa_nil)) (pv 1)))))), ?_⟩
    refine Evl.s_if (b := decide (0 < a)) (Evl.et_test (Evl.ev_op (Evl.ev_op (Evl.ev_var rfl) Evl.ev_c (rv_ixA hc rfl)) Evl.ev_c Evl.rv_I0)) (fun hpos H1 x1 => ?_) (fun hneg H1 x1 => ?_)
    · have hc1 := x1 _ _ hc
      refine Evl.q_asg (v := .int (a.fmod many)) (Evl.ev_op (ev_intC (Evl.ev_op (Evl.ev_var rfl) Evl.ev_c (rv_ixA hc1 rfl))) (Evl.ev_var rfl) (Evl.rv_I nz)) fun H2 x2 => ?_
      have hc2 := x2 _ _ hc1
      refine Evl.s_setL (j := 0) (v := .int (a.fdiv many)) hc2 (Evl.ev_op (Evl.ev_op (Evl.ev_var rfl) Evl.ev_c (rv_ixA hc2 rfl)) (Evl.ev_var rfl) (Evl.rv_I ⟨nz, by omega⟩)) (Evl.ev_var rfl) Evl.ev_c (Nat.zero_lt_succ _) fun H3 x3 => ?_
      refine Evl.s_ret (v := .int (a.fmod many)) (Evl.ev_var rfl) fun H4 x4 => ?_
      obtain ⟨f1, f2⟩ := fmod_pos (i := a) h1
      refine out _ (a.fdiv many) b H4 f1 f2 (fun p o n e => x4 _ _ ?_) (x4 _ _ upd_same) hb
      exact upd_oth (fun p o _ e => x3 _ _ (x2 _ _ (x1 _ _ e))) p o n e
    · have hc1 := x1 _ _ hc
      obtain ⟨g1, g2⟩ := fmod_pos (i := b * 30671 + 7919) (j := 2147483549) (by decide)
      refine Evl.s_setL (j := 1) (v := .int ((b * 30671 + 7919).fmod 2147483549)) hc1 (Evl.ev_op (ev_intC (Evl.ev_op (Evl.ev_op (Evl.ev_op (Evl.ev_var rfl) Evl.ev_c (rv_ixA hc1 rfl)) Evl.ev_c (Evl.rv_I (Or.inr ⟨by decide, by decide⟩))) Evl.ev_c rv_addA)) Evl.ev_c (Evl.rv_I (by decide))) (Evl.ev_var rfl) Evl.ev_c (Nat.lt_succ_self _) fun H2 x2 => ?_
      generalize (b * 30671 + 7919).fmod 2147483549 = b1 at g1 g2
      have hc2 : (upd H2 c (.lst ([V.int a, V.int b].set 1 (.int b1)))) c = some (.lst [V.int a, .int b1]) := upd_same
      obtain ⟨d1, d2⟩ := fmod_pos (i := b1 * (b1 + 131)) (j := 2147483587) (by decide)
      refine Evl.q_asg (v := .int ((b1 * (b1 + 131)).fmod 2147483587)) (Evl.ev_op (ev_intC (Evl.ev_op (Evl.ev_op (Evl.ev_var rfl) Evl.ev_c (rv_ixA hc2 rfl)) (Evl.ev_op (Evl.ev_op (Evl.ev_var rfl) Evl.ev_c (rv_ixA hc2 rfl)) Evl.ev_c rv_addA) (Evl.rv_I (Or.inl ⟨by omega, by omega⟩)))) Evl.ev_c (Evl.rv_I (by decide))) fun H3 x3 => ?_
      have hc3 := x3 _ _ hc2
      generalize (b1 * (b1 + 131)).fmod 2147483587 = dd
      obtain ⟨f1, f2⟩ := fmod_pos (i := dd.fdiv 709) h1
      refine Evl.s_ret (v := .int ((dd.fdiv 709).fmod many)) (Evl.ev_op (ev_intC (Evl.ev_op (Evl.ev_var rfl) Evl.ev_c (Evl.rv_I ⟨by decide, by decide⟩))) (Evl.ev_var rfl) (Evl.rv_I nz)) fun H4 x4 => ?_
      refine out _ a b1 H4 f1 f2 (fun p o n e => x4 _ _ (x3 _ _ ?_)) (x4 _ _ hc3) ⟨by omega, by omega⟩
      exact upd_oth (fun p o _ e => x2 _ _ (x1 _ _ e)) p o n e
end
theorem el_addA {K : PySem.W.Frag} {σ : St} {H : Hp} {ta tb : TE} {xs ys : List V} (ha : Evl.EvL ta σ H xs) (hb : Evl.EvL tb σ H ys) (hz : xs.length + ys.length ≤ sizeLine) : Evl.EvL (tOp (rAddA K) ta tb) σ H (xs ++ ys) := fun H1 e Q q =>
  ha H1 e _ fun p H2 hp e2 h2 => hb H2 (e.trans e2) _ fun p2 H3 hp2 e3 h3 => Or.inr (Or.inl ⟨p, p2, xs, ys, rfl, rfl, e3 _ _ h2, h3, hz, fun l hl => q l _ (Evl.fresh_back (e2.trans e3) hl) ((e2.trans e3).trans (Ex.new hl)) upd_same⟩)
abbrev rAbsC : List V → Hp → VK → Prop := fun xs H Q => ∃ i, xs = [.int i] ∧ Q (.int (if i < 0 then -i else i)) H
def spCup (K : PySem.W.Frag) : Sp := fun vs H Q _ => ∃ (a : Addr) (ns : List Int), vs = [.ref a] ∧ ns.length ≤ 100000 ∧ SqL K H a (ns.map V.int) ∧ ∀ c H', Ex H H' → H c = none → CupAt H' c → Q (.ref c) H'
abbrev N_law_cup : List Str := ["_law_script", "_law_cell"]
theorem sc_law_cup : FnScope N_law_cup ["_law_script"] (defScope s_law_cup) := ⟨rfl, rfl, rfl, by decide +kernel, rfl, by decide +kernel, by decide +kernel⟩
section
variable {P : Program} {w : World} {K : PySem.W.Frag} {mg : Str → Option Value} {base : Heap}
theorem ok_law_cup (T : Txt K mg) : FnOk P w K mg base CX0 1 T.a_law_cup T.fd_law_cup ["_law_script"] (spCup K) := by
  refine T.F_law_cup.ok sc_law_cup (fun vs H Q E h => ?_) (fun cdv A outer s H vs Q E hr h => ?_)
  · obtain ⟨_, _, rfl, _⟩ := h
    rfl
  · obtain ⟨a, ns, rfl, hl, hs, q⟩ := h
    refine ⟨_, pss_cons (ps_set (i := 1) sc_law_cup.nd rfl (Or.inl rfl) (pe_callB call_abs (by rfl) T.n_abs boot_absX (pa_cons (pe_ix ix_A (pe_op op_addA (pe_callTy call_list_of (by rfl) T.n_list boot_listX (pa_cons (pv 0) pa_nil)) (pe_lst (pa_cons pe_int pa_nil))) pe_int (fun _ _ => rfl)) pa_nil)))
      (pss_one (ps_ret (pe_lst (pa_cons (pe_ifExp (pt_cmpR op_ge (pv 1) (pe_op op_pow pe_int pe_int) (nomark _)) (pe_op op_fdivN (pv 1) pe_int) pe_int)
        (pa_cons (pe_op op_addA (pe_op op_modN (pe_callTy call_int1 (by rfl) T.n_int boot_intX (pa_cons (pe_op op_addA (pe_op op_mul (pv 1) pe_int) pe_int) pa_nil)) pe_int) pe_int) pa_nil))))), ?_⟩
    obtain ⟨n0, hn0⟩ : ∃ n0 : Int, atI (ns.map V.int ++ [V.int 0]) 0 = some (.int n0) := by
      cases ns with
      | nil => exact ⟨0, atI_nat (j := 0) rfl⟩
      | cons n r => exact ⟨n, atI_nat (j := 0) rfl⟩
    refine Evl.q_asg (v := .int (if n0 < 0 then -n0 else n0)) (Evl.ev_cb (Evl.ea_cons (Evl.ev_opL1 (el_addA (Evl.el_list (Evl.ev_var rfl) hs) (Evl.el_lst (Evl.ea_cons Evl.ev_c Evl.ea_nil) (by decide)) ?_) (fun H1 _ => Evl.ev_c) (fun p H1 h1 _ => rv_ixA h1 hn0)) Evl.ea_nil) fun H1 _ Q q => ⟨n0, rfl, q H1 (Ex.refl H1)⟩) fun H1 x1 => ?_
    · rw [List.length_map]
      show ns.length + 1 ≤ sizeLine
      have : sizeLine = 16777216 := sizeLine_eq
      omega
    generalize (if n0 < 0 then -n0 else n0) = n1
    obtain ⟨f1, f2⟩ := fmod_pos (i := n1 * 193 + 1201) (j := 2077504273) (by decide)
    refine Evl.s_retL (xs := [.int (if decide ((10 : Int) ^ (18 : Int).toNat ≤ n1) = true then n1.fdiv 11 else 0), .int ((n1 * 193 + 1201).fmod 2077504273 + 89)]) (Evl.el_lst (Evl.ea_cons (Evl.ev_if (Evl.et_test (Evl.ev_op (Evl.ev_var rfl) (Evl.ev_op Evl.ev_c Evl.ev_c (Evl.rv_I ⟨by decide, by decide, by decide⟩)) Evl.rv_I0)) (fun h => ?_) (fun h => ?_))
      (Evl.ea_cons (Evl.ev_op (Evl.ev_op (ev_intC (Evl.ev_op (Evl.ev_op (Evl.ev_var rfl) Evl.ev_c (Evl.rv_I (Or.inr ⟨by decide, by decide⟩))) Evl.ev_c rv_addA)) Evl.ev_c (Evl.rv_I (by decide))) Evl.ev_c rv_addA) Evl.ea_nil)) (by show 2 ≤ 100000; decide)) fun c H2 hc x2 h2 => ?_
    · rw [if_pos h]
      exact Evl.ev_op (Evl.ev_var rfl) Evl.ev_c (Evl.rv_I ⟨by decide, by decide⟩)
    · rw [h, if_neg Bool.false_ne_true]
      exact Evl.ev_c
    · exact q c H2 (x1.trans x2) (Evl.fresh_back x1 hc) ⟨_, _, h2, by omega, by omega⟩
end
end DL
/-! printed by gen.py: law_some -/
namespace DL
open PySem L2
def m_law_some : PSt := pRet (pOp ixD (lift (fVar 1)) (pCallS rollM (pslV 0 (pslD (lift (fCall lenF (fCons (fVar 1) (fNil)))) (pslNil)))))
def M_law_some : List Slot → (PyData → Prop) → Prop := fun ss Φ => endP (m_law_some (startS 0 ss)) Φ
abbrev N_law_some : List Str := ["_law_cup_here", "_law_things"]
theorem sc_law_some : FnScope N_law_some ["_law_cup_here", "_law_things"] (defScope s_law_some) := ⟨rfl, rfl, rfl, by decide +kernel, rfl, by decide +kernel, by decide +kernel⟩
section
variable {P : Program} {w : World} {K : PySem.W.Frag} {mg : Str → Option Value} {base : Heap}
theorem ok_law_some (T : Txt K mg) : FnOk P w K mg base CX0 2 T.a_law_some T.fd_law_some ["_law_cup_here", "_law_things"] (spM 2 M_law_some) :=
  fn_slots T.F_law_some sc_law_some rfl fun cdv A outer s H E hr => ⟨_, ms_one (ms_ret (me_ix ix_A sr_ix (fe_var (pv 1)) (me_callS (msl_v (i := 0) (pv 0) (msl_d (fe_cb sc_len (fa_cons (fe_var (pv 1)) (fa_nil)) (fun z => pe_callB call_len_seq (by rfl) T.n_len boot_lenX z)) (msl_nil))) (fun z => pe_call (ok_law_roll T) (hr.mono (by decide)) (by rfl) T.m_law_roll T.F_law_roll.kp T.b_law_roll .nil pass0 z)) (fun _ _ => rfl)))⟩
end
end DL
/-! printed by gen.py: law_case -/
namespace DL
open PySem L2
def m_law_case : PSt := pSeq (pAsg (pTup (pCons (pOp addD (lift (fC (.int 1))) (pCallS M_law_some (pslV 0 (pslD (lift (fLst (fCons (fC (.int 0)) (fCons (fC (.int 1)) (fCons (fC (.int 1)) (fCons (fC (.int 2)) (fCons (fC (.int 3)) (fNil)))))))) (pslNil))))) (pCons (pOp addD (lift (fC (.int 1))) (pCallS M_law_some (pslV 0 (pslD (lift (fLst (fCons (fC (.int 0)) (fCons (fC (.int 1)) (fCons (fC (.int 1)) (fCons (fC (.int 2)) (fNil))))))) (pslNil))))) (pNil)))) (pgTup (pgCons (pgName 1) (pgCons (pgName 2) (pgNil))))) (pSeq (pAsg (pCall tupleF (pCons (pLc (pRg1 (pCallS M_law_some (pslV 0 (pslD (lift (fLst (fCons (fC (.int 0)) (fCons (fC (.int 2)) (fCons (fC (.int 4)) (fCons (fC (.int 5)) (fCons (fC (.int 6)) (fCons (fC (.int 8)) (fCons (fC (.int 10)) (fCons (fC (.int 12)) (fNil))))))))))) (pslNil))))) (pgName 6) (lift fYes) (pCallS rollM (pslV 0 (pslD (lift (fVar 1)) (pslNil)))) [6]) (pNil))) (pgName 3)) (pSeq (pPar 4 5 (pCons (lift (fTup (fNil))) (pCons (pCallS M_law_some (pslV 0 (pslD (lift (fLst (fCons (fC (.int 0)) (fCons (fC (.int 4)) (fCons (fC (.int 9)) (fCons (fC (.int 30)) (fNil))))))) (pslNil)))) (pNil)))) (pSeq (pFor (lift (fRg1 (fCall lenF (fCons (fVar 3) (fNil))))) (pgName 6) (pSeq (lift (fAsg (fTup (fNil)) (pgName 7))) (pSeq (pFor (lift (fRg1 (fVar 1))) (pgName 8) (pSeq (lift (fAsg (fLc (fRg1 (fCall lenF (fCons (fVar 3) (fNil)))) (pgName 11) (fTest (fOp (eqD) (fOp ixD (fVar 3) (fVar 11)) (fVar 8))) (fVar 11) [11]) (pgName 9))) (pSeq (pAsg (pOrV (lift (fOp (eqD) (fVar 9) (fLst (fNil)))) (pAndV (lift (fOp (cmpD fun i j => decide (j < i)) (fVar 5) (fC (.int 0)))) (pOp (eqD) (pCallS rollM (pslV 0 (pslD (lift (fVar 5)) (pslNil)))) (lift (fC (.int 0)))))) (pgName 10)) (pAsg (pOp addD (lift (fVar 7)) (pTup (pCons (pIf (lift (fTest (fVar 10))) (lift (fC .none)) (pCallS M_law_some (pslV 0 (pslD (lift (fVar 9)) (pslNil))))) (pNil)))) (pgName 7))))) (lift (fAsg (fOp addD (fVar 4) (fTup (fCons (fVar 7) (fNil)))) (pgName 4)))))) (pRet (pTup (pCons (lift (fTup (fCons (fVar 1) (fCons (fVar 3) (fNil))))) (pCons (lift (fVar 4)) (pCons (pCall tupleF (pCons (pLc (lift (fItT (fVar 3))) (pgName 6) (lift fYes) (pCallS rollM (pslV 0 (pslD (lift (fVar 2)) (pslNil)))) [6]) (pNil))) (pNil)))))))))
def M_law_case : List Slot → (PyData → Prop) → Prop := fun ss Φ => endP (m_law_case (startS 11 ss)) Φ
abbrev N_law_case : List Str := ["_law_cup_here", "_law_many", "_law_stays", "_law_row", "_law_puts", "_law_holes", "_law_thing", "_law_own", "_law_worth", "_law_some_here", "_law_is_hole", "_law_there"]
theorem sc_law_case : FnScope N_law_case ["_law_cup_here"] (defScope s_law_case) := ⟨rfl, rfl, rfl, by decide +kernel, rfl, by decide +kernel, by decide +kernel⟩
section
variable {P : Program} {w : World} {K : PySem.W.Frag} {mg : Str → Option Value} {base : Heap}
theorem ok_law_case (T : Txt K mg) : FnOk P w K mg base CX0 3 T.a_law_case T.fd_law_case ["_law_cup_here"] (spM 1 M_law_case) :=
  fn_slots T.F_law_case sc_law_case rfl fun cdv A outer s H E hr => ⟨_, ms_cons (ms_asg (me_tup (ma_cons (me_op op_addA sr_add (fe_int) (me_callS (msl_v (i := 0) (pv 0) (msl_d (fe_lst (fa_cons (fe_int) (fa_cons (fe_int) (fa_cons (fe_int) (fa_cons (fe_int) (fa_cons (fe_int) (fa_nil))))))) (msl_nil))) (fun z => pe_call (ok_law_some T) (hr.mono (by decide)) (by rfl) T.m_law_some T.F_law_some.kp T.b_law_some .nil pass0 z))) (ma_cons (me_op op_addA sr_add (fe_int) (me_callS (msl_v (i := 0) (pv 0) (msl_d (fe_lst (fa_cons (fe_int) (fa_cons (fe_int) (fa_cons (fe_int) (fa_cons (fe_int) (fa_nil)))))) (msl_nil))) (fun z => pe_call (ok_law_some T) (hr.mono (by decide)) (by rfl) T.m_law_some T.F_law_some.kp T.b_law_some .nil pass0 z))) (ma_nil)))) (mg_tupX (K := K) (mgs_consX (mg_name (pg_name (i := 1) sc_law_case.nd rfl (Or.inr rfl))) (mgs_consX (mg_name (pg_name (i := 2) sc_law_case.nd rfl (Or.inr rfl))) (mgs_nil) (fun y z => pgs_cons y z)) (fun y z => pgs_cons y z)) (nlen_cons (nlen_cons (nlen_nil))) (fun y => pg_tup rfl y)) (fun y z => ps_asg y z)) (ms_cons (ms_set (i := 3) (me_cb sc_tuple (ma_cons (me_lc (own := [("_law_thing", 6)]) rfl sc_law_case.nd (mi_rg1 (by rfl) T.n_range (me_callS (msl_v (i := 0) (pv 0) (msl_d (fe_lst (fa_cons (fe_int) (fa_cons (fe_int) (fa_cons (fe_int) (fa_cons (fe_int) (fa_cons (fe_int) (fa_cons (fe_int) (fa_cons (fe_int) (fa_cons (fe_int) (fa_nil)))))))))) (msl_nil))) (fun z => pe_call (ok_law_some T) (hr.mono (by decide)) (by rfl) T.m_law_some T.F_law_some.kp T.b_law_some .nil pass0 z))) (blkOk_by (own := [("_law_thing", 6)]) (N := N_law_case) (sc := (defScope s_law_case)) (by decide +kernel)) (fun _ _ _ _ _ => mg_name (pg_name (i := 6) sc_law_case.nd rfl (Or.inl rfl))) (by decide) (fun _ _ _ _ _ => fts_nil) (fun _ _ _ _ _ => me_callS (msl_v (i := 0) (pv 0) (msl_d (fe_var (pv 1)) (msl_nil))) (fun z => pe_call (ok_law_roll T) (hr.mono (by decide)) (by rfl) T.m_law_roll T.F_law_roll.kp T.b_law_roll .nil pass0 z))) (ma_nil)) (fun z => pe_callTy call_tuple_of (by rfl) T.n_tuple boot_tupleX z)) (fun z => ps_set (i := 3) sc_law_case.nd rfl (Or.inr rfl) z)) (ms_cons (ms_par (i := 4) (j := 5) (ma_cons (fe_tup (fa_nil)) (ma_cons (me_callS (msl_v (i := 0) (pv 0) (msl_d (fe_lst (fa_cons (fe_int) (fa_cons (fe_int) (fa_cons (fe_int) (fa_cons (fe_int) (fa_nil)))))) (msl_nil))) (fun z => pe_call (ok_law_some T) (hr.mono (by decide)) (by rfl) T.m_law_some T.F_law_some.kp T.b_law_some .nil pass0 z)) (ma_nil))) (fun z => ps_par (by rfl) sc_law_case.nd rfl rfl (by decide) rfl rfl z (by rfl))) (ms_cons (ms_for (fi_rg1 (by rfl) T.n_range (fe_cb sc_len (fa_cons (fe_var (pv 3)) (fa_nil)) (fun z => pe_callB call_len_seq (by rfl) T.n_len boot_lenX z))) (mg_name (pg_name (i := 6) sc_law_case.nd rfl (Or.inl rfl))) (ms_cons (fs_set (i := 7) (fe_tup (fa_nil)) (fun z => ps_set (i := 7) sc_law_case.nd rfl (Or.inl rfl) z)) (ms_cons (ms_for (fi_rg1 (by rfl) T.n_range (fe_var (pv 1))) (mg_name (pg_name (i := 8) sc_law_case.nd rfl (Or.inr rfl))) (ms_cons (fs_setLc (i := 9) (own := [("_law_there", 11)]) rfl sc_law_case.nd rfl rfl (sw_true rfl rfl rfl (by decide +kernel)) (fi_rg1 (by rfl) T.n_range (fe_cb sc_len (fa_cons (fe_var (pv 3)) (fa_nil)) (fun z => pe_callB call_len_seq (by rfl) T.n_len boot_lenX z))) (blkOk_by (own := [("_law_there", 11)]) (N := N_law_case) (sc := (defScope s_law_case)) (by decide +kernel)) (fun _ _ _ _ _ => mg_name (pg_name (i := 11) sc_law_case.nd rfl (Or.inl rfl))) (by decide) (fun _ _ _ _ _ => fts_one (ft_cmp (op_eqD hr.units) (sr_eq) (fe_ix ix_A sr_ix (fe_var (pv 3)) (fe_var (pv 11)) (fun _ _ => rfl)) (fe_var (pv 8)) (nomark _))) (fun _ _ _ _ _ => fe_var (pv 11))) (ms_cons (ms_set (i := 10) (me_or (fe_cmp (op_eqD hr.units) (sr_eq) (fe_var (pv 9)) (fe_lst (fa_nil)) (nomark _)) (me_one (me_and (fe_cmp (op_gt) (sr_cmp) (fe_var (pv 5)) (fe_int) (nomark _)) (me_one (me_cmp (op_eqD hr.units) (sr_eq) (me_callS (msl_v (i := 0) (pv 0) (msl_d (fe_var (pv 5)) (msl_nil))) (fun z => pe_call (ok_law_roll T) (hr.mono (by decide)) (by rfl) T.m_law_roll T.F_law_roll.kp T.b_law_roll .nil pass0 z)) (fe_int) (nomark _)))))) (fun z => ps_set (i := 10) sc_law_case.nd rfl (Or.inl rfl) z)) (ms_one (ms_set (i := 7) (me_op op_addA sr_add (fe_var (pv 7)) (me_tup (ma_cons (me_if (ft_valc (fe_var (pv 10)) (fun z => pt_val z)) (fe_non) (me_callS (msl_v (i := 0) (pv 0) (msl_d (fe_var (pv 9)) (msl_nil))) (fun z => pe_call (ok_law_some T) (hr.mono (by decide)) (by rfl) T.m_law_some T.F_law_some.kp T.b_law_some .nil pass0 z))) (ma_nil)))) (fun z => ps_set (i := 7) sc_law_case.nd rfl (Or.inl rfl) z))))) (fun x y z => ps_for PassesOwn.never rfl x y z)) (fs_one (fs_set (i := 4) (fe_op op_addA sr_add (fe_var (pv 4)) (fe_tup (fa_cons (fe_var (pv 7)) (fa_nil)))) (fun z => ps_set (i := 4) sc_law_case.nd rfl (Or.inl rfl) z))))) (fun x y z => ps_for PassesOwn.never rfl x y z)) (ms_one (ms_ret (me_tup (ma_cons (fe_tup (fa_cons (fe_var (pv 1)) (fa_cons (fe_var (pv 3)) (fa_nil)))) (ma_cons (fe_var (pv 4)) (ma_cons (me_cb sc_tuple (ma_cons (me_lc (own := [("_law_thing", 6)]) rfl sc_law_case.nd (fi_tupK (K := K) (fe_var (pv 3)) (fun z => pi_tup z)) (blkOk_by (own := [("_law_thing", 6)]) (N := N_law_case) (sc := (defScope s_law_case)) (by decide +kernel)) (fun _ _ _ _ _ => mg_name (pg_name (i := 6) sc_law_case.nd rfl (Or.inl rfl))) (by decide) (fun _ _ _ _ _ => fts_nil) (fun _ _ _ _ _ => me_callS (msl_v (i := 0) (pv 0) (msl_d (fe_var (pv 2)) (msl_nil))) (fun z => pe_call (ok_law_roll T) (hr.mono (by decide)) (by rfl) T.m_law_roll T.F_law_roll.kp T.b_law_roll .nil pass0 z))) (ma_nil)) (fun z => pe_callTy call_tuple_of (by rfl) T.n_tuple boot_tupleX z)) (ma_nil))))))))))⟩
end
end DL
/-! printed by gen.py: law_keys -/
namespace DL
open PySem L2
def m_law_keys : PSt := pSeq (pAsg (pOp addD (lift (fC (.int 1))) (pCallS M_law_some (pslV 0 (pslD (lift (fLst (fCons (fC (.int 0)) (fCons (fC (.int 1)) (fCons (fC (.int 1)) (fCons (fC (.int 2)) (fCons (fC (.int 4)) (fNil)))))))) (pslNil))))) (pgName 2)) (pRet (pCall tupleF (pCons (pLc (lift (fItT (fOp ixD (fOp ixD (fVar 1) (fC (.int 0))) (fC (.int 1))))) (pgName 3) (lift fYes) (pCallS rollM (pslV 0 (pslD (lift (fVar 2)) (pslNil)))) [3]) (pNil))))
def M_law_keys : List Slot → (PyData → Prop) → Prop := fun ss Φ => endP (m_law_keys (startS 2 ss)) Φ
abbrev N_law_keys : List Str := ["_law_cup_here", "_law_case_here", "_law_many", "_law_thing"]
theorem sc_law_keys : FnScope N_law_keys ["_law_cup_here", "_law_case_here"] (defScope s_law_keys) := ⟨rfl, rfl, rfl, by decide +kernel, rfl, by decide +kernel, by decide +kernel⟩
section
variable {P : Program} {w : World} {K : PySem.W.Frag} {mg : Str → Option Value} {base : Heap}
theorem ok_law_keys (T : Txt K mg) : FnOk P w K mg base CX0 3 T.a_law_keys T.fd_law_keys ["_law_cup_here", "_law_case_here"] (spM 2 M_law_keys) :=
  fn_slots T.F_law_keys sc_law_keys rfl fun cdv A outer s H E hr => ⟨_, ms_cons (ms_set (i := 2) (me_op op_addA sr_add (fe_int) (me_callS (msl_v (i := 0) (pv 0) (msl_d (fe_lst (fa_cons (fe_int) (fa_cons (fe_int) (fa_cons (fe_int) (fa_cons (fe_int) (fa_cons (fe_int) (fa_nil))))))) (msl_nil))) (fun z => pe_call (ok_law_some T) (hr.mono (by decide)) (by rfl) T.m_law_some T.F_law_some.kp T.b_law_some .nil pass0 z))) (fun z => ps_set (i := 2) sc_law_keys.nd rfl (Or.inr rfl) z)) (ms_one (ms_ret (me_cb sc_tuple (ma_cons (me_lc (own := [("_law_thing", 3)]) rfl sc_law_keys.nd (fi_tupK (K := K) (fe_ix ix_A sr_ix (fe_ix ix_A sr_ix (fe_var (pv 1)) (fe_int) (fun _ _ => rfl)) (fe_int) (fun _ _ => rfl)) (fun z => pi_tup z)) (blkOk_by (own := [("_law_thing", 3)]) (N := N_law_keys) (sc := (defScope s_law_keys)) (by decide +kernel)) (fun _ _ _ _ _ => mg_name (pg_name (i := 3) sc_law_keys.nd rfl (Or.inl rfl))) (by decide) (fun _ _ _ _ _ => fts_nil) (fun _ _ _ _ _ => me_callS (msl_v (i := 0) (pv 0) (msl_d (fe_var (pv 2)) (msl_nil))) (fun z => pe_call (ok_law_roll T) (hr.mono (by decide)) (by rfl) T.m_law_roll T.F_law_roll.kp T.b_law_roll .nil pass0 z))) (ma_nil)) (fun z => pe_callTy call_tuple_of (by rfl) T.n_tuple boot_tupleX z))))⟩
end
end DL
/-! printed by gen.py: law_line -/
namespace DL
open PySem L2
abbrev N_law_line : List Str := ["_law_many", "_law_row", "_law_puts", "_law_thing"]
theorem sc_law_line : FnScope N_law_line ["_law_many"] (defScope s_law_line) := ⟨rfl, rfl, rfl, by decide +kernel, rfl, by decide +kernel, by decide +kernel⟩
section
variable {P : Program} {w : World} {K : PySem.W.Frag} {mg : Str → Option Value} {base : Heap}
theorem ok_law_line (T : Txt K mg) : FnOk P w K mg base CX0 1 T.a_law_line T.fd_law_line ["_law_many"] (spF 1 F_law_line) :=
  fn_pure T.F_law_line sc_law_line rfl fun cdv A outer s H E hr => ⟨_, fs_cons (fs_set (i := 1) (fe_cb sc_tuple (fa_cons (fe_lc (own := [("_law_thing", 3)]) rfl sc_law_line.nd (fi_rg1 (by rfl) T.n_range (fe_var (pv 0))) (blkOk_by (own := [("_law_thing", 3)]) (N := N_law_line) (sc := (defScope s_law_line)) (by decide +kernel)) (fun _ _ _ _ _ => mg_name (pg_name (i := 3) sc_law_line.nd rfl (Or.inl rfl))) (by decide) (fun _ _ _ _ _ => fts_nil) (fun _ _ _ _ _ => fe_cb sc_min (fa_cons (fe_op op_addA sr_add (fe_var (pv 3)) (fe_int)) (fa_cons (fe_op op_sub sr_sub (fe_var (pv 0)) (fe_int)) (fa_nil))) (fun z => pe_callB (call_min2 rfl) (by rfl) T.n_min boot_minX z))) (fa_nil)) (fun z => pe_callTy call_tuple_of (by rfl) T.n_tuple boot_tupleX z)) (fun z => ps_set (i := 1) sc_law_line.nd rfl (Or.inl rfl) z)) (fs_cons (fs_set (i := 2) (fe_cb sc_tuple (fa_cons (fe_lc (own := [("_law_thing", 3)]) rfl sc_law_line.nd (fi_tupK (K := K) (fe_var (pv 1)) (fun z => pi_tup z)) (blkOk_by (own := [("_law_thing", 3)]) (N := N_law_line) (sc := (defScope s_law_line)) (by decide +kernel)) (fun _ _ _ _ _ => mg_name (pg_name (i := 3) sc_law_line.nd rfl (Or.inl rfl))) (by decide) (fun _ _ _ _ _ => fts_nil) (fun _ _ _ _ _ => fe_tup (fa_cons (fe_var (pv 3)) (fa_nil)))) (fa_nil)) (fun z => pe_callTy call_tuple_of (by rfl) T.n_tuple boot_tupleX z)) (fun z => ps_set (i := 2) sc_law_line.nd rfl (Or.inl rfl) z)) (fs_one (fs_ret (fe_tup (fa_cons (fe_tup (fa_cons (fe_int) (fa_cons (fe_op op_mulA sr_mulA (fe_tup (fa_cons (fe_int) (fa_nil))) (fe_var (pv 0))) (fa_nil)))) (fa_cons (fe_var (pv 2)) (fa_cons (fe_op op_addA sr_add (fe_op op_mulA sr_mulA (fe_tup (fa_cons (fe_int) (fa_nil))) (fe_op op_sub sr_sub (fe_var (pv 0)) (fe_int))) (fe_tup (fa_cons (fe_int) (fa_nil)))) (fa_nil))))))))⟩
end
end DL
/-! printed by gen.py: alike_pairs -/
namespace DL
open PySem L2
abbrev N_alike_pairs : List Str := ["case", "keys", "row", "found", "one", "later", "two"]
theorem sc_alike_pairs : FnScope N_alike_pairs ["case", "keys"] (defScope s_alike_pairs) := ⟨rfl, rfl, rfl, by decide +kernel, rfl, by decide +kernel, by decide +kernel⟩
section
variable {P : Program} {w : World} {K : PySem.W.Frag} {mg : Str → Option Value} {base : Heap}
theorem ok_alike_pairs (T : Txt K mg) : FnOk P w K mg base CX0 1 T.a_alike_pairs T.fd_alike_pairs ["case", "keys"] (spF 2 F_alike_pairs) :=
  fn_pure T.F_alike_pairs sc_alike_pairs rfl fun cdv A outer s H E hr => ⟨_, fs_cons (fs_asg (fe_tup (fa_cons (fe_ix ix_A sr_ix (fe_ix ix_A sr_ix (fe_var (pv 0)) (fe_int) (fun _ _ => rfl)) (fe_int) (fun _ _ => rfl)) (fa_cons (fe_lst (fa_nil)) (fa_nil)))) (mg_tupX (K := K) (mgs_consX (mg_name (pg_name (i := 2) sc_alike_pairs.nd rfl (Or.inr rfl))) (mgs_consX (mg_name (pg_name (i := 3) sc_alike_pairs.nd rfl (Or.inl rfl))) (mgs_nil) (fun y z => pgs_cons y z)) (fun y z => pgs_cons y z)) (nlen_cons (nlen_cons (nlen_nil))) (fun y => pg_tup rfl y)) (fun y z => ps_asg y z)) (fs_cons (fs_for (fi_rg1 (by rfl) T.n_range (fe_cb sc_len (fa_cons (fe_var (pv 2)) (fa_nil)) (fun z => pe_callB call_len_seq (by rfl) T.n_len boot_lenX z))) (mg_name (pg_name (i := 4) sc_alike_pairs.nd rfl (Or.inr rfl))) (fs_cons (fs_setLc (i := 5) (own := [("two", 6)]) rfl sc_alike_pairs.nd rfl rfl (sw_true rfl rfl rfl (by decide +kernel)) (fi_rg2 (by rfl) T.n_range (fe_op op_addA sr_add (fe_var (pv 4)) (fe_int)) (fe_cb sc_len (fa_cons (fe_var (pv 2)) (fa_nil)) (fun z => pe_callB call_len_seq (by rfl) T.n_len boot_lenX z))) (blkOk_by (own := [("two", 6)]) (N := N_alike_pairs) (sc := (defScope s_alike_pairs)) (by decide +kernel)) (fun _ _ _ _ _ => mg_name (pg_name (i := 6) sc_alike_pairs.nd rfl (Or.inl rfl))) (by decide) (fun _ _ _ _ _ => fts_one (ft_w (fw_and (ft_cmp (op_eqD hr.units) (sr_eq) (fe_ix ix_A sr_ix (fe_var (pv 2)) (fe_var (pv 4)) (fun _ _ => rfl)) (fe_ix ix_A sr_ix (fe_var (pv 2)) (fe_var (pv 6)) (fun _ _ => rfl)) (nomark _)) (fw_and1 (ft_cmp (op_eqD hr.units) (sr_eq) (fe_ix ix_A sr_ix (fe_var (pv 1)) (fe_var (pv 4)) (fun _ _ => rfl)) (fe_ix ix_A sr_ix (fe_var (pv 1)) (fe_var (pv 6)) (fun _ _ => rfl)) (nomark _)))))) (fun _ _ _ _ _ => fe_var (pv 6))) (fs_one (fs_set (i := 3) (fe_op op_addA sr_add (fe_var (pv 3)) (fe_lc (own := [("two", 6)]) rfl sc_alike_pairs.nd (fi_listK (K := K) (fe_var (pv 5)) (fun z => pi_list z)) (blkOk_by (own := [("two", 6)]) (N := N_alike_pairs) (sc := (defScope s_alike_pairs)) (by decide +kernel)) (fun _ _ _ _ _ => mg_name (pg_name (i := 6) sc_alike_pairs.nd rfl (Or.inl rfl))) (by decide) (fun _ _ _ _ _ => fts_nil) (fun _ _ _ _ _ => fe_tup (fa_cons (fe_var (pv 4)) (fa_cons (fe_var (pv 6)) (fa_nil)))))) (fun z => ps_set (i := 3) sc_alike_pairs.nd rfl (Or.inl rfl) z)))) (fun x y z => ps_for PassesOwn.never rfl x y z)) (fs_one (fs_ret (fe_var (pv 3)))))⟩
end
end DL
/-! printed by gen.py: most_of -/
namespace DL
open PySem L2
abbrev N_most_of : List Str := ["often"]
theorem sc_most_of : FnScope N_most_of ["often"] (defScope s_most_of) := ⟨rfl, rfl, rfl, by decide +kernel, rfl, by decide +kernel, by decide +kernel⟩
section
variable {P : Program} {w : World} {K : PySem.W.Frag} {mg : Str → Option Value} {base : Heap}
theorem ok_most_of (T : Txt K mg) : FnOk P w K mg base CX0 1 T.a_most_of T.fd_most_of ["often"] (spF 1 F_most_of) :=
  fn_pure T.F_most_of sc_most_of rfl fun cdv A outer s H E hr => ⟨_, fs_one (fs_ret (fe_if (ft_cmp (op_eqD hr.units) (sr_eq) (fe_var (pv 0)) (fe_gstr (pe_glob (by rfl) T.m_ONCE ⟨_, rfl⟩)) (nomark _)) (fe_int) (fe_op op_mulA sr_mulA (fe_gint (pe_glob (by rfl) T.m_THINGS ⟨_, rfl⟩)) (fe_gint (pe_glob (by rfl) T.m_THINGS ⟨_, rfl⟩)))))⟩
end
end DL
/-! printed by gen.py: behind -/
namespace DL
open PySem L2
abbrev N_behind : List Str := ["case", "thing", "change"]
theorem sc_behind : FnScope N_behind ["case", "thing", "change"] (defScope s_behind) := ⟨rfl, rfl, rfl, by decide +kernel, rfl, by decide +kernel, by decide +kernel⟩
section
variable {P : Program} {w : World} {K : PySem.W.Frag} {mg : Str → Option Value} {base : Heap}
theorem ok_behind (T : Txt K mg) : FnOk P w K mg base CX0 1 T.a_behind T.fd_behind ["case", "thing", "change"] (spF 3 F_behind) :=
  fn_pure T.F_behind sc_behind rfl fun cdv A outer s H E hr => ⟨_, fs_one (fs_ret (fe_ix ix_A sr_ix (fe_ix ix_A sr_ix (fe_ix ix_A sr_ix (fe_var (pv 0)) (fe_int) (fun _ _ => rfl)) (fe_var (pv 1)) (fun _ _ => rfl)) (fe_ix ix_A sr_ix (fe_var (pv 2)) (fe_int) (fun _ _ => rfl)) (fun _ _ => rfl)))⟩
end
end DL
/-! printed by gen.py: answer_of -/
namespace DL
open PySem L2
abbrev N_answer_of : List Str := ["case", "thing", "change", "there"]
theorem sc_answer_of : FnScope N_answer_of ["case", "thing", "change"] (defScope s_answer_of) := ⟨rfl, rfl, rfl, by decide +kernel, rfl, by decide +kernel, by decide +kernel⟩
section
variable {P : Program} {w : World} {K : PySem.W.Frag} {mg : Str → Option Value} {base : Heap}
theorem ok_answer_of (T : Txt K mg) : FnOk P w K mg base CX0 2 T.a_answer_of T.fd_answer_of ["case", "thing", "change"] (spF 3 F_answer_of) :=
  fn_pure T.F_answer_of sc_answer_of rfl fun cdv A outer s H E hr => ⟨_, fs_cons (fs_set (i := 3) (fe_call (fa_cons (fe_var (pv 0)) (fa_cons (fe_var (pv 1)) (fa_cons (fe_var (pv 2)) (fa_nil)))) (fun z => pe_call (ok_behind T) (hr.mono (by decide)) (by rfl) T.m_behind T.F_behind.kp T.b_behind .nil pass0 z)) (fun z => ps_set (i := 3) sc_answer_of.nd rfl (Or.inl rfl) z)) (fs_one (fs_ret (fe_if (ft_isN (fe_var (pv 3))) (fe_non) (fe_ix ix_A sr_ix (fe_ix ix_A sr_ix (fe_var (pv 0)) (fe_int) (fun _ _ => rfl)) (fe_var (pv 3)) (fun _ _ => rfl)))))⟩
end
end DL
/-! printed by gen.py: changes_from -/
namespace DL
open PySem L2
abbrev N_changes_from : List Str := ["lets", "worth", "change"]
theorem sc_changes_from : FnScope N_changes_from ["lets", "worth"] (defScope s_changes_from) := ⟨rfl, rfl, rfl, by decide +kernel, rfl, by decide +kernel, by decide +kernel⟩
section
variable {P : Program} {w : World} {K : PySem.W.Frag} {mg : Str → Option Value} {base : Heap}
theorem ok_changes_from (T : Txt K mg) : FnOk P w K mg base CX0 1 T.a_changes_from T.fd_changes_from ["lets", "worth"] (spF 2 F_changes_from) :=
  fn_pure T.F_changes_from sc_changes_from rfl fun cdv A outer s H E hr => ⟨_, fs_one (fs_ret (fe_lc (own := [("change", 2)]) rfl sc_changes_from.nd (fi_tupK (K := K) (fe_var (pv 0)) (fun z => pi_tup z)) (blkOk_by (own := [("change", 2)]) (N := N_changes_from) (sc := (defScope s_changes_from)) (by decide +kernel)) (fun _ _ _ _ _ => mg_name (pg_name (i := 2) sc_changes_from.nd rfl (Or.inl rfl))) (by decide) (fun _ _ _ _ _ => fts_one (ft_cmp (op_eqD hr.units) (sr_eq) (fe_ix ix_A sr_ix (fe_var (pv 2)) (fe_int) (fun _ _ => rfl)) (fe_var (pv 1)) (nomark _))) (fun _ _ _ _ _ => fe_var (pv 2))))⟩
end
end DL
/-! printed by gen.py: trail_between -/
namespace DL
open PySem L2
abbrev N_trail_between : List Str := ["case", "lets", "one", "other", "most", "row", "met", "line", "here", "there", "trail", "changes", "change", "both"]
theorem sc_trail_between : FnScope N_trail_between ["case", "lets", "one", "other", "most"] (defScope s_trail_between) := ⟨rfl, rfl, rfl, by decide +kernel, rfl, by decide +kernel, by decide +kernel⟩
section
variable {P : Program} {w : World} {K : PySem.W.Frag} {mg : Str → Option Value} {base : Heap}
theorem ok_trail_between (T : Txt K mg) : FnOk P w K mg base CX0 3 T.a_trail_between T.fd_trail_between ["case", "lets", "one", "other", "most"] (spF 5 F_trail_between) :=
  fn_pure T.F_trail_between sc_trail_between rfl fun cdv A outer s H E hr => ⟨_, fs_cons (fs_par3 (i := 5) (j := 6) (l := 7) (fa_cons (fe_ix ix_A sr_ix (fe_ix ix_A sr_ix (fe_var (pv 0)) (fe_int) (fun _ _ => rfl)) (fe_int) (fun _ _ => rfl)) (fa_cons (fe_lst (fa_cons (fe_tup (fa_cons (fe_var (pv 2)) (fa_cons (fe_var (pv 3)) (fa_nil)))) (fa_nil))) (fa_cons (fe_lst (fa_cons (fe_tup (fa_cons (fe_var (pv 2)) (fa_cons (fe_var (pv 3)) (fa_cons (fe_tup (fa_nil)) (fa_nil))))) (fa_nil))) (fa_nil)))) (fun z => ps_par3 (by rfl) sc_trail_between.nd rfl rfl rfl (by decide) (by decide) (by decide) rfl rfl rfl z (by rfl))) (fs_cons (fs_while 200 (ft_cmp (op_neD hr.units) (sr_ne) (fe_var (pv 7)) (fe_lst (fa_nil)) (nomark _)) (fs_cons (fs_asg (fe_tup (fa_cons (fe_ix ix_A sr_ix (fe_var (pv 7)) (fe_int) (fun _ _ => rfl)) (fa_cons (fe_from (fe_var (pv 7)) (fe_int)) (fa_nil)))) (mg_tupX (K := K) (mgs_consX (mg_tupX (K := K) (mgs_consX (mg_name (pg_name (i := 8) sc_trail_between.nd rfl (Or.inl rfl))) (mgs_consX (mg_name (pg_name (i := 9) sc_trail_between.nd rfl (Or.inl rfl))) (mgs_consX (mg_name (pg_name (i := 10) sc_trail_between.nd rfl (Or.inl rfl))) (mgs_nil) (fun y z => pgs_cons y z)) (fun y z => pgs_cons y z)) (fun y z => pgs_cons y z)) (nlen_cons (nlen_cons (nlen_cons (nlen_nil)))) (fun y => pg_tup rfl y)) (mgs_consX (mg_name (pg_name (i := 7) sc_trail_between.nd rfl (Or.inl rfl))) (mgs_nil) (fun y z => pgs_cons y z)) (fun y z => pgs_cons y z)) (nlen_cons (nlen_cons (nlen_nil))) (fun y => pg_tup rfl y)) (fun y z => ps_asg y z)) (fs_cons (fs_set (i := 11) (fe_if (ft_cmp (op_ltA hr.units0) (sr_lt) (fe_cb sc_len (fa_cons (fe_var (pv 10)) (fa_nil)) (fun z => pe_callB call_len_seq (by rfl) T.n_len boot_lenX z)) (fe_var (pv 4)) (nomark _)) (fe_call (fa_cons (fe_var (pv 1)) (fa_cons (fe_ix ix_A sr_ix (fe_var (pv 5)) (fe_var (pv 8)) (fun _ _ => rfl)) (fa_nil))) (fun z => pe_call (ok_changes_from T) (hr.mono (by decide)) (by rfl) T.m_changes_from T.F_changes_from.kp T.b_changes_from .nil pass0 z)) (fe_lst (fa_nil))) (fun z => ps_set (i := 11) sc_trail_between.nd rfl (Or.inl rfl) z)) (fs_cons (fs_for (fi_listK (K := K) (fe_var (pv 11)) (fun z => pi_list z)) (mg_name (pg_name (i := 12) sc_trail_between.nd rfl (Or.inl rfl))) (fs_one (fs_if (ft_cmp (op_neD hr.units) (sr_ne) (fe_call (fa_cons (fe_var (pv 0)) (fa_cons (fe_var (pv 8)) (fa_cons (fe_var (pv 12)) (fa_nil)))) (fun z => pe_call (ok_answer_of T) (hr.mono (by decide)) (by rfl) T.m_answer_of T.F_answer_of.kp T.b_answer_of .nil pass0 z)) (fe_call (fa_cons (fe_var (pv 0)) (fa_cons (fe_var (pv 9)) (fa_cons (fe_var (pv 12)) (fa_nil)))) (fun z => pe_call (ok_answer_of T) (hr.mono (by decide)) (by rfl) T.m_answer_of T.F_answer_of.kp T.b_answer_of .nil pass0 z)) (nomark _)) (fs_one (fs_ret (fe_op op_addA sr_add (fe_var (pv 10)) (fe_tup (fa_cons (fe_var (pv 12)) (fa_nil)))))) (fs_nil))) (fun x y z => ps_for PassesOwn.never rfl x y z)) (fs_one (fs_for (fi_listK (K := K) (fe_var (pv 11)) (fun z => pi_list z)) (mg_name (pg_name (i := 12) sc_trail_between.nd rfl (Or.inl rfl))) (fs_cons (fs_set (i := 13) (fe_tup (fa_cons (fe_call (fa_cons (fe_var (pv 0)) (fa_cons (fe_var (pv 8)) (fa_cons (fe_var (pv 12)) (fa_nil)))) (fun z => pe_call (ok_behind T) (hr.mono (by decide)) (by rfl) T.m_behind T.F_behind.kp T.b_behind .nil pass0 z)) (fa_cons (fe_call (fa_cons (fe_var (pv 0)) (fa_cons (fe_var (pv 9)) (fa_cons (fe_var (pv 12)) (fa_nil)))) (fun z => pe_call (ok_behind T) (hr.mono (by decide)) (by rfl) T.m_behind T.F_behind.kp T.b_behind .nil pass0 z)) (fa_nil)))) (fun z => ps_set (i := 13) sc_trail_between.nd rfl (Or.inl rfl) z)) (fs_one (fs_if (ft_w (fw_and (ft_notN (fe_ix ix_A sr_ix (fe_var (pv 13)) (fe_int) (fun _ _ => rfl))) (fw_and1 (ft_cmp (op_notInA (hu65 hr)) (sr_notIn) (fe_var (pv 13)) (fe_var (pv 6)) (by rfl))))) (fs_one (fs_par (i := 6) (j := 7) (fa_cons (fe_op op_addA sr_add (fe_var (pv 6)) (fe_lst (fa_cons (fe_var (pv 13)) (fa_nil)))) (fa_cons (fe_op op_addA sr_add (fe_var (pv 7)) (fe_lst (fa_cons (fe_op op_addA sr_add (fe_var (pv 13)) (fe_tup (fa_cons (fe_op op_addA sr_add (fe_var (pv 10)) (fe_tup (fa_cons (fe_var (pv 12)) (fa_nil)))) (fa_nil)))) (fa_nil)))) (fa_nil))) (fun z => ps_par (by rfl) sc_trail_between.nd rfl rfl (by decide) rfl rfl z (by rfl)))) (fs_nil)))) (fun x y z => ps_for PassesOwn.never rfl x y z)))))) (fun y z => ps_while PassesOwn.never y z)) (fs_one (fs_ret (fe_non))))⟩
end
end DL
/-! printed by gen.py: first_apart -/
namespace DL
open PySem L2
abbrev N_first_apart : List Str := ["case", "lets", "keys", "often", "one", "two", "trail"]
theorem sc_first_apart : FnScope N_first_apart ["case", "lets", "keys", "often"] (defScope s_first_apart) := ⟨rfl, rfl, rfl, by decide +kernel, rfl, by decide +kernel, by decide +kernel⟩
section
variable {P : Program} {w : World} {K : PySem.W.Frag} {mg : Str → Option Value} {base : Heap}
theorem ok_first_apart (T : Txt K mg) : FnOk P w K mg base CX0 4 T.a_first_apart T.fd_first_apart ["case", "lets", "keys", "often"] (spF 4 F_first_apart) :=
  fn_pure T.F_first_apart sc_first_apart rfl fun cdv A outer s H E hr => ⟨_, fs_cons (fs_for (fi_listK (K := K) (fe_call (fa_cons (fe_var (pv 0)) (fa_cons (fe_var (pv 2)) (fa_nil))) (fun z => pe_call (ok_alike_pairs T) (hr.mono (by decide)) (by rfl) T.m_alike_pairs T.F_alike_pairs.kp T.b_alike_pairs .nil pass0 z)) (fun z => pi_list z)) (mg_tupX (K := K) (mgs_consX (mg_name (pg_name (i := 4) sc_first_apart.nd rfl (Or.inl rfl))) (mgs_consX (mg_name (pg_name (i := 5) sc_first_apart.nd rfl (Or.inl rfl))) (mgs_nil) (fun y z => pgs_cons y z)) (fun y z => pgs_cons y z)) (nlen_cons (nlen_cons (nlen_nil))) (fun y => pg_tup rfl y)) (fs_cons (fs_set (i := 6) (fe_call (fa_cons (fe_var (pv 0)) (fa_cons (fe_var (pv 1)) (fa_cons (fe_var (pv 4)) (fa_cons (fe_var (pv 5)) (fa_cons (fe_call (fa_cons (fe_var (pv 3)) (fa_nil)) (fun z => pe_call (ok_most_of T) (hr.mono (by decide)) (by rfl) T.m_most_of T.F_most_of.kp T.b_most_of .nil pass0 z)) (fa_nil)))))) (fun z => pe_call (ok_trail_between T) (hr.mono (by decide)) (by rfl) T.m_trail_between T.F_trail_between.kp T.b_trail_between .nil pass0 z)) (fun z => ps_set (i := 6) sc_first_apart.nd rfl (Or.inl rfl) z)) (fs_one (fs_if (ft_notN (fe_var (pv 6))) (fs_one (fs_ret (fe_tup (fa_cons (fe_var (pv 4)) (fa_cons (fe_var (pv 5)) (fa_cons (fe_var (pv 6)) (fa_nil))))))) (fs_nil)))) (fun x y z => ps_for PassesOwn.never rfl x y z)) (fs_one (fs_ret (fe_non)))⟩
end
end DL
/-! printed by gen.py: hold -/
namespace DL
open PySem L2
abbrev N_hold : List Str := ["case", "lets", "keys", "often"]
theorem sc_hold : FnScope N_hold ["case", "lets", "keys", "often"] (defScope s_hold) := ⟨rfl, rfl, rfl, by decide +kernel, rfl, by decide +kernel, by decide +kernel⟩
section
variable {P : Program} {w : World} {K : PySem.W.Frag} {mg : Str → Option Value} {base : Heap}
theorem ok_hold (T : Txt K mg) : FnOk P w K mg base CX0 5 T.a_hold T.fd_hold ["case", "lets", "keys", "often"] (spF 4 F_hold) :=
  fn_pure T.F_hold sc_hold rfl fun cdv A outer s H E hr => ⟨_, fs_one (fs_ret (fe_isN (fe_call (fa_cons (fe_var (pv 0)) (fa_cons (fe_var (pv 1)) (fa_cons (fe_var (pv 2)) (fa_cons (fe_var (pv 3)) (fa_nil))))) (fun z => pe_call (ok_first_apart T) (hr.mono (by decide)) (by rfl) T.m_first_apart T.F_first_apart.kp T.b_first_apart .nil pass0 z))))⟩
end
end DL
/-! printed by gen.py: is_row_of -/
namespace DL
open PySem L2
abbrev N_is_row_of : List Str := ["value", "low", "high"]
theorem sc_is_row_of : FnScope N_is_row_of ["value", "low", "high"] (defScope s_is_row_of) := ⟨rfl, rfl, rfl, by decide +kernel, rfl, by decide +kernel, by decide +kernel⟩
section
variable {P : Program} {w : World} {K : PySem.W.Frag} {mg : Str → Option Value} {base : Heap}
theorem ok_is_row_of (T : Txt K mg) : FnOk P w K mg base CX0 1 T.a_is_row_of T.fd_is_row_of ["value", "low", "high"] (spF 3 F_is_row_of) :=
  fn_pure T.F_is_row_of sc_is_row_of rfl fun cdv A outer s H E hr => ⟨_, fs_one (fs_ret (fe_and (fe_isi kit_tup (fe_var (pv 0)) (pe_bltn (by rfl) T.n_tuple boot_tupleX rfl) (fun z => pe_callB call_isi (by rfl) T.n_isinstance boot_isinstanceX z)) (fe_one (fe_chain (op_le) (op_le) (sr_cmp) (sr_cmp) (fe_var (pv 1)) (fe_cb sc_len (fa_cons (fe_var (pv 0)) (fa_nil)) (fun z => pe_callB call_len_seq (by rfl) T.n_len boot_lenX z)) (fe_var (pv 2))))))⟩
end
end DL
/-! printed by gen.py: is_whole -/
namespace DL
open PySem L2
abbrev N_is_whole : List Str := ["value", "low", "high"]
theorem sc_is_whole : FnScope N_is_whole ["value", "low", "high"] (defScope s_is_whole) := ⟨rfl, rfl, rfl, by decide +kernel, rfl, by decide +kernel, by decide +kernel⟩
section
variable {P : Program} {w : World} {K : PySem.W.Frag} {mg : Str → Option Value} {base : Heap}
theorem ok_is_whole (T : Txt K mg) : FnOk P w K mg base CX0 1 T.a_is_whole T.fd_is_whole ["value", "low", "high"] (spF 3 F_is_whole) :=
  fn_pure T.F_is_whole sc_is_whole rfl fun cdv A outer s H E hr => ⟨_, fs_one (fs_ret (fe_and (fe_isi kit_int (fe_var (pv 0)) (pe_bltn (by rfl) T.n_int boot_intX rfl) (fun z => pe_callB call_isi (by rfl) T.n_isinstance boot_isinstanceX z)) (fe_and (fe_not (fe_isi kit_bool (fe_var (pv 0)) (pe_bltn (by rfl) T.n_bool boot_boolX rfl) (fun z => pe_callB call_isi (by rfl) T.n_isinstance boot_isinstanceX z))) (fe_one (fe_chain (op_le) (op_le) (sr_cmp) (sr_cmp) (fe_var (pv 1)) (fe_var (pv 0)) (fe_var (pv 2)))))))⟩
end
end DL
/-! printed by gen.py: fits_numbers -/
namespace DL
open PySem L2
abbrev N_fits_numbers : List Str := ["value", "many", "greatest", "one"]
theorem sc_fits_numbers : FnScope N_fits_numbers ["value", "many", "greatest"] (defScope s_fits_numbers) := ⟨rfl, rfl, rfl, by decide +kernel, rfl, by decide +kernel, by decide +kernel⟩
section
variable {P : Program} {w : World} {K : PySem.W.Frag} {mg : Str → Option Value} {base : Heap}
theorem ok_fits_numbers (T : Txt K mg) : FnOk P w K mg base CX0 2 T.a_fits_numbers T.fd_fits_numbers ["value", "many", "greatest"] (spF 3 F_fits_numbers) :=
  fn_pure T.F_fits_numbers sc_fits_numbers rfl fun cdv A outer s H E hr => ⟨_, fs_one (fs_ret (fe_and (fe_call (fa_cons (fe_var (pv 0)) (fa_cons (fe_var (pv 1)) (fa_cons (fe_var (pv 1)) (fa_nil)))) (fun z => pe_call (ok_is_row_of T) (hr.mono (by decide)) (by rfl) T.m_is_row_of T.F_is_row_of.kp T.b_is_row_of .nil pass0 z)) (fe_one (fe_cb sc_all (fa_cons (fe_lc (own := [("one", 3)]) rfl sc_fits_numbers.nd (fi_tupK (K := K) (fe_var (pv 0)) (fun z => pi_tup z)) (blkOk_by (own := [("one", 3)]) (N := N_fits_numbers) (sc := (defScope s_fits_numbers)) (by decide +kernel)) (fun _ _ _ _ _ => mg_name (pg_name (i := 3) sc_fits_numbers.nd rfl (Or.inl rfl))) (by decide) (fun _ _ _ _ _ => fts_nil) (fun _ _ _ _ _ => fe_call (fa_cons (fe_var (pv 3)) (fa_cons (fe_int) (fa_cons (fe_var (pv 2)) (fa_nil)))) (fun z => pe_call (ok_is_whole T) (hr.mono (by decide)) (by rfl) T.m_is_whole T.F_is_whole.kp T.b_is_whole .nil pass0 z))) (fa_nil)) (fun z => pe_callB (cr_all rfl) (by rfl) T.n_all boot_allX z)))))⟩
end
end DL
/-! printed by gen.py: fits_put -/
namespace DL
open PySem L2
abbrev N_fits_put : List Str := ["row", "worth", "value"]
theorem sc_fits_put : FnScope N_fits_put ["row", "worth", "value"] (defScope s_fits_put) := ⟨rfl, rfl, rfl, by decide +kernel, rfl, by decide +kernel, by decide +kernel⟩
section
variable {P : Program} {w : World} {K : PySem.W.Frag} {mg : Str → Option Value} {base : Heap}
theorem ok_fits_put (T : Txt K mg) : FnOk P w K mg base CX0 2 T.a_fits_put T.fd_fits_put ["row", "worth", "value"] (spF 3 F_fits_put) :=
  fn_pure T.F_fits_put sc_fits_put rfl fun cdv A outer s H E hr => ⟨_, fs_one (fs_ret (fe_or (fe_isN (fe_var (pv 2))) (fe_one (fe_and (fe_call (fa_cons (fe_var (pv 2)) (fa_cons (fe_int) (fa_cons (fe_op op_sub sr_sub (fe_cb sc_len (fa_cons (fe_var (pv 0)) (fa_nil)) (fun z => pe_callB call_len_seq (by rfl) T.n_len boot_lenX z)) (fe_int)) (fa_nil)))) (fun z => pe_call (ok_is_whole T) (hr.mono (by decide)) (by rfl) T.m_is_whole T.F_is_whole.kp T.b_is_whole .nil pass0 z)) (fe_one (fe_cmp (op_eqD hr.units) (sr_eq) (fe_ix ix_A sr_ix (fe_var (pv 0)) (fe_var (pv 2)) (fun _ _ => rfl)) (fe_var (pv 1)) (nomark _)))))))⟩
end
end DL
/-! printed by gen.py: fits_showing -/
namespace DL
open PySem L2
abbrev N_fits_showing : List Str := ["value", "worth"]
theorem sc_fits_showing : FnScope N_fits_showing ["value"] (defScope s_fits_showing) := ⟨rfl, rfl, rfl, by decide +kernel, rfl, by decide +kernel, by decide +kernel⟩
section
variable {P : Program} {w : World} {K : PySem.W.Frag} {mg : Str → Option Value} {base : Heap}
theorem ok_fits_showing (T : Txt K mg) : FnOk P w K mg base CX0 2 T.a_fits_showing T.fd_fits_showing ["value"] (spF 1 F_fits_showing) :=
  fn_pure T.F_fits_showing sc_fits_showing rfl fun cdv A outer s H E hr => ⟨_, fs_cons (fs_if (ft_w (fw_or (ft_not (ft_valc (fe_call (fa_cons (fe_var (pv 0)) (fa_cons (fe_int) (fa_cons (fe_int) (fa_nil)))) (fun z => pe_call (ok_is_row_of T) (hr.mono (by decide)) (by rfl) T.m_is_row_of T.F_is_row_of.kp T.b_is_row_of .nil pass0 z)) (fun z => pt_val z))) (fw_or (ft_not (ft_valc (fe_call (fa_cons (fe_ix ix_A sr_ix (fe_var (pv 0)) (fe_int) (fun _ _ => rfl)) (fa_cons (fe_int) (fa_cons (fe_gint (pe_glob (by rfl) T.m_WORTHS ⟨_, rfl⟩)) (fa_nil)))) (fun z => pe_call (ok_is_whole T) (hr.mono (by decide)) (by rfl) T.m_is_whole T.F_is_whole.kp T.b_is_whole .nil pass0 z)) (fun z => pt_val z))) (fw_or1 (ft_not (ft_valc (fe_call (fa_cons (fe_ix ix_A sr_ix (fe_var (pv 0)) (fe_int) (fun _ _ => rfl)) (fa_cons (fe_int) (fa_cons (fe_gint (pe_glob (by rfl) T.m_THINGS ⟨_, rfl⟩)) (fa_nil)))) (fun z => pe_call (ok_is_row_of T) (hr.mono (by decide)) (by rfl) T.m_is_row_of T.F_is_row_of.kp T.b_is_row_of .nil pass0 z)) (fun z => pt_val z))))))) (fs_one (fs_ret (fe_bl))) (fs_nil)) (fs_one (fs_ret (fe_cb sc_all (fa_cons (fe_lc (own := [("worth", 1)]) rfl sc_fits_showing.nd (fi_tupK (K := K) (fe_ix ix_A sr_ix (fe_var (pv 0)) (fe_int) (fun _ _ => rfl)) (fun z => pi_tup z)) (blkOk_by (own := [("worth", 1)]) (N := N_fits_showing) (sc := (defScope s_fits_showing)) (by decide +kernel)) (fun _ _ _ _ _ => mg_name (pg_name (i := 1) sc_fits_showing.nd rfl (Or.inl rfl))) (by decide) (fun _ _ _ _ _ => fts_nil) (fun _ _ _ _ _ => fe_call (fa_cons (fe_var (pv 1)) (fa_cons (fe_int) (fa_cons (fe_op op_sub sr_sub (fe_ix ix_A sr_ix (fe_var (pv 0)) (fe_int) (fun _ _ => rfl)) (fe_int)) (fa_nil)))) (fun z => pe_call (ok_is_whole T) (hr.mono (by decide)) (by rfl) T.m_is_whole T.F_is_whole.kp T.b_is_whole .nil pass0 z))) (fa_nil)) (fun z => pe_callB (cr_all rfl) (by rfl) T.n_all boot_allX z))))⟩
end
end DL
/-! printed by gen.py: fits_case -/
namespace DL
open PySem L2
abbrev N_fits_case : List Str := ["value", "many", "row", "puts", "worth", "one"]
theorem sc_fits_case : FnScope N_fits_case ["value"] (defScope s_fits_case) := ⟨rfl, rfl, rfl, by decide +kernel, rfl, by decide +kernel, by decide +kernel⟩
section
variable {P : Program} {w : World} {K : PySem.W.Frag} {mg : Str → Option Value} {base : Heap}
theorem ok_fits_case (T : Txt K mg) : FnOk P w K mg base CX0 3 T.a_fits_case T.fd_fits_case ["value"] (spF 1 F_fits_case) :=
  fn_pure T.F_fits_case sc_fits_case rfl fun cdv A outer s H E hr => ⟨_, fs_cons (fs_if (ft_w (fw_or (ft_not (ft_valc (fe_call (fa_cons (fe_var (pv 0)) (fa_cons (fe_int) (fa_cons (fe_int) (fa_nil)))) (fun z => pe_call (ok_is_row_of T) (hr.mono (by decide)) (by rfl) T.m_is_row_of T.F_is_row_of.kp T.b_is_row_of .nil pass0 z)) (fun z => pt_val z))) (fw_or1 (ft_not (ft_valc (fe_call (fa_cons (fe_ix ix_A sr_ix (fe_var (pv 0)) (fe_int) (fun _ _ => rfl)) (fa_nil)) (fun z => pe_call (ok_fits_showing T) (hr.mono (by decide)) (by rfl) T.m_fits_showing T.F_fits_showing.kp T.b_fits_showing .nil pass0 z)) (fun z => pt_val z)))))) (fs_one (fs_ret (fe_bl))) (fs_nil)) (fs_cons (fs_asg (fe_ix ix_A sr_ix (fe_var (pv 0)) (fe_int) (fun _ _ => rfl)) (mg_tupX (K := K) (mgs_consX (mg_name (pg_name (i := 1) sc_fits_case.nd rfl (Or.inr rfl))) (mgs_consX (mg_name (pg_name (i := 2) sc_fits_case.nd rfl (Or.inr rfl))) (mgs_nil) (fun y z => pgs_cons y z)) (fun y z => pgs_cons y z)) (nlen_cons (nlen_cons (nlen_nil))) (fun y => pg_tup rfl y)) (fun y z => ps_asg y z)) (fs_cons (fs_if (ft_w (fw_or (ft_not (ft_valc (fe_call (fa_cons (fe_ix ix_A sr_ix (fe_var (pv 0)) (fe_int) (fun _ _ => rfl)) (fa_cons (fe_cb sc_len (fa_cons (fe_var (pv 2)) (fa_nil)) (fun z => pe_callB call_len_seq (by rfl) T.n_len boot_lenX z)) (fa_cons (fe_cb sc_len (fa_cons (fe_var (pv 2)) (fa_nil)) (fun z => pe_callB call_len_seq (by rfl) T.n_len boot_lenX z)) (fa_nil)))) (fun z => pe_call (ok_is_row_of T) (hr.mono (by decide)) (by rfl) T.m_is_row_of T.F_is_row_of.kp T.b_is_row_of .nil pass0 z)) (fun z => pt_val z))) (fw_or1 (ft_not (ft_valc (fe_cb sc_all (fa_cons (fe_lc (own := [("puts", 3)]) rfl sc_fits_case.nd (fi_tupK (K := K) (fe_ix ix_A sr_ix (fe_var (pv 0)) (fe_int) (fun _ _ => rfl)) (fun z => pi_tup z)) (blkOk_by (own := [("puts", 3)]) (N := N_fits_case) (sc := (defScope s_fits_case)) (by decide +kernel)) (fun _ _ _ _ _ => mg_name (pg_name (i := 3) sc_fits_case.nd rfl (Or.inl rfl))) (by decide) (fun _ _ _ _ _ => fts_nil) (fun _ _ _ _ _ => fe_call (fa_cons (fe_var (pv 3)) (fa_cons (fe_var (pv 1)) (fa_cons (fe_var (pv 1)) (fa_nil)))) (fun z => pe_call (ok_is_row_of T) (hr.mono (by decide)) (by rfl) T.m_is_row_of T.F_is_row_of.kp T.b_is_row_of .nil pass0 z))) (fa_nil)) (fun z => pe_callB (cr_all rfl) (by rfl) T.n_all boot_allX z)) (fun z => pt_val z)))))) (fs_one (fs_ret (fe_bl))) (fs_nil)) (fs_cons (fs_for (fi_tupK (K := K) (fe_ix ix_A sr_ix (fe_var (pv 0)) (fe_int) (fun _ _ => rfl)) (fun z => pi_tup z)) (mg_name (pg_name (i := 3) sc_fits_case.nd rfl (Or.inl rfl))) (fs_one (fs_if (ft_not (ft_valc (fe_cb sc_all (fa_cons (fe_lc (own := [("worth", 4), ("one", 5)]) rfl sc_fits_case.nd (fi_enum (by rfl) T.n_enumerate (fe_var (pv 3))) (blkOk_by (own := [("worth", 4), ("one", 5)]) (N := N_fits_case) (sc := (defScope s_fits_case)) (by decide +kernel)) (fun _ _ _ _ _ => mg_tupX (K := K) (mgs_consX (mg_name (pg_name (i := 4) sc_fits_case.nd rfl (Or.inl rfl))) (mgs_consX (mg_name (pg_name (i := 5) sc_fits_case.nd rfl (Or.inl rfl))) (mgs_nil) (fun y z => pgs_cons y z)) (fun y z => pgs_cons y z)) (nlen_cons (nlen_cons (nlen_nil))) (fun y => pg_tup rfl y)) (by decide) (fun _ _ _ _ _ => fts_nil) (fun _ _ _ _ _ => fe_call (fa_cons (fe_var (pv 2)) (fa_cons (fe_var (pv 4)) (fa_cons (fe_var (pv 5)) (fa_nil)))) (fun z => pe_call (ok_fits_put T) (hr.mono (by decide)) (by rfl) T.m_fits_put T.F_fits_put.kp T.b_fits_put .nil pass0 z))) (fa_nil)) (fun z => pe_callB (cr_all rfl) (by rfl) T.n_all boot_allX z)) (fun z => pt_val z))) (fs_one (fs_ret (fe_bl))) (fs_nil))) (fun x y z => ps_for PassesOwn.never rfl x y z)) (fs_one (fs_ret (fe_call (fa_cons (fe_ix ix_A sr_ix (fe_var (pv 0)) (fe_int) (fun _ _ => rfl)) (fa_cons (fe_cb sc_len (fa_cons (fe_var (pv 2)) (fa_nil)) (fun z => pe_callB call_len_seq (by rfl) T.n_len boot_lenX z)) (fa_cons (fe_gint (pe_glob (by rfl) T.m_STAY ⟨_, rfl⟩)) (fa_nil)))) (fun z => pe_call (ok_fits_numbers T) (hr.mono (by decide)) (by rfl) T.m_fits_numbers T.F_fits_numbers.kp T.b_fits_numbers .nil pass0 z)))))))⟩
end
end DL
/-! printed by gen.py: need_case -/
namespace DL
open PySem L2
abbrev N_need_case : List Str := ["value"]
theorem sc_need_case : FnScope N_need_case ["value"] (defScope s_need_case) := ⟨rfl, rfl, rfl, by decide +kernel, rfl, by decide +kernel, by decide +kernel⟩
section
variable {P : Program} {w : World} {K : PySem.W.Frag} {mg : Str → Option Value} {base : Heap}
theorem ok_need_case (T : Txt K mg) : FnOk P w K mg base CX0 4 T.a_need_case T.fd_need_case ["value"] (spF 1 F_need_case) :=
  fn_pure T.F_need_case sc_need_case rfl fun cdv A outer s H E hr => ⟨_, fs_one (fs_if (ft_not (ft_valc (fe_call (fa_cons (fe_var (pv 0)) (fa_nil)) (fun z => pe_call (ok_fits_case T) (hr.mono (by decide)) (by rfl) T.m_fits_case T.F_fits_case.kp T.b_fits_case .nil pass0 z)) (fun z => pt_val z))) (fs_one (fs_never)) (fs_nil))⟩
end
end DL
/-! printed by gen.py: need_keys -/
namespace DL
open PySem L2
abbrev N_need_keys : List Str := ["case", "value"]
theorem sc_need_keys : FnScope N_need_keys ["case", "value"] (defScope s_need_keys) := ⟨rfl, rfl, rfl, by decide +kernel, rfl, by decide +kernel, by decide +kernel⟩
section
variable {P : Program} {w : World} {K : PySem.W.Frag} {mg : Str → Option Value} {base : Heap}
theorem ok_need_keys (T : Txt K mg) : FnOk P w K mg base CX0 3 T.a_need_keys T.fd_need_keys ["case", "value"] (spF 2 F_need_keys) :=
  fn_pure T.F_need_keys sc_need_keys rfl fun cdv A outer s H E hr => ⟨_, fs_one (fs_if (ft_not (ft_valc (fe_call (fa_cons (fe_var (pv 1)) (fa_cons (fe_cb sc_len (fa_cons (fe_ix ix_A sr_ix (fe_ix ix_A sr_ix (fe_var (pv 0)) (fe_int) (fun _ _ => rfl)) (fe_int) (fun _ _ => rfl)) (fa_nil)) (fun z => pe_callB call_len_seq (by rfl) T.n_len boot_lenX z)) (fa_cons (fe_gint (pe_glob (by rfl) T.m_STAY ⟨_, rfl⟩)) (fa_nil)))) (fun z => pe_call (ok_fits_numbers T) (hr.mono (by decide)) (by rfl) T.m_fits_numbers T.F_fits_numbers.kp T.b_fits_numbers .nil pass0 z)) (fun z => pt_val z))) (fs_one (fs_never)) (fs_nil))⟩
end
end DL
/-! printed by gen.py: fits_lets -/
namespace DL
open PySem L2
abbrev N_fits_lets : List Str := ["case", "value", "last", "change", "one", "later"]
theorem sc_fits_lets : FnScope N_fits_lets ["case", "value"] (defScope s_fits_lets) := ⟨rfl, rfl, rfl, by decide +kernel, rfl, by decide +kernel, by decide +kernel⟩
section
variable {P : Program} {w : World} {K : PySem.W.Frag} {mg : Str → Option Value} {base : Heap}
theorem ok_fits_lets (T : Txt K mg) : FnOk P w K mg base CX0 2 T.a_fits_lets T.fd_fits_lets ["case", "value"] (spF 2 F_fits_lets) :=
  fn_pure T.F_fits_lets sc_fits_lets rfl fun cdv A outer s H E hr => ⟨_, fs_cons (fs_set (i := 2) (fe_op op_sub sr_sub (fe_ix ix_A sr_ix (fe_ix ix_A sr_ix (fe_var (pv 0)) (fe_int) (fun _ _ => rfl)) (fe_int) (fun _ _ => rfl)) (fe_int)) (fun z => ps_set (i := 2) sc_fits_lets.nd rfl (Or.inr rfl) z)) (fs_cons (fs_if (ft_w (fw_or (ft_not (ft_valc (fe_isi kit_tup (fe_var (pv 1)) (pe_bltn (by rfl) T.n_tuple boot_tupleX rfl) (fun z => pe_callB call_isi (by rfl) T.n_isinstance boot_isinstanceX z)) (fun z => pt_val z))) (fw_or1 (ft_not (ft_valc (fe_cb sc_all (fa_cons (fe_lc (own := [("change", 3)]) rfl sc_fits_lets.nd (fi_tupK (K := K) (fe_var (pv 1)) (fun z => pi_tup z)) (blkOk_by (own := [("change", 3)]) (N := N_fits_lets) (sc := (defScope s_fits_lets)) (by decide +kernel)) (fun _ _ _ _ _ => mg_name (pg_name (i := 3) sc_fits_lets.nd rfl (Or.inl rfl))) (by decide) (fun _ _ _ _ _ => fts_nil) (fun _ _ _ _ _ => fe_call (fa_cons (fe_var (pv 3)) (fa_cons (fe_int) (fa_cons (fe_int) (fa_nil)))) (fun z => pe_call (ok_is_row_of T) (hr.mono (by decide)) (by rfl) T.m_is_row_of T.F_is_row_of.kp T.b_is_row_of .nil pass0 z))) (fa_nil)) (fun z => pe_callB (cr_all rfl) (by rfl) T.n_all boot_allX z)) (fun z => pt_val z)))))) (fs_one (fs_ret (fe_bl))) (fs_nil)) (fs_cons (fs_if (ft_not (ft_valc (fe_cb sc_all (fa_cons (fe_lc (own := [("change", 3)]) rfl sc_fits_lets.nd (fi_tupK (K := K) (fe_var (pv 1)) (fun z => pi_tup z)) (blkOk_by (own := [("change", 3)]) (N := N_fits_lets) (sc := (defScope s_fits_lets)) (by decide +kernel)) (fun _ _ _ _ _ => mg_name (pg_name (i := 3) sc_fits_lets.nd rfl (Or.inl rfl))) (by decide) (fun _ _ _ _ _ => fts_nil) (fun _ _ _ _ _ => fe_and (fe_call (fa_cons (fe_ix ix_A sr_ix (fe_var (pv 3)) (fe_int) (fun _ _ => rfl)) (fa_cons (fe_int) (fa_cons (fe_var (pv 2)) (fa_nil)))) (fun z => pe_call (ok_is_whole T) (hr.mono (by decide)) (by rfl) T.m_is_whole T.F_is_whole.kp T.b_is_whole .nil pass0 z)) (fe_one (fe_call (fa_cons (fe_ix ix_A sr_ix (fe_var (pv 3)) (fe_int) (fun _ _ => rfl)) (fa_cons (fe_int) (fa_cons (fe_var (pv 2)) (fa_nil)))) (fun z => pe_call (ok_is_whole T) (hr.mono (by decide)) (by rfl) T.m_is_whole T.F_is_whole.kp T.b_is_whole .nil pass0 z))))) (fa_nil)) (fun z => pe_callB (cr_all rfl) (by rfl) T.n_all boot_allX z)) (fun z => pt_val z))) (fs_one (fs_ret (fe_bl))) (fs_nil)) (fs_one (fs_ret (fe_cb sc_all (fa_cons (fe_lc (own := [("one", 4), ("later", 5)]) rfl sc_fits_lets.nd (fi_zip (by rfl) T.n_zip (fe_var (pv 1)) (fe_from (fe_var (pv 1)) (fe_int))) (blkOk_by (own := [("one", 4), ("later", 5)]) (N := N_fits_lets) (sc := (defScope s_fits_lets)) (by decide +kernel)) (fun _ _ _ _ _ => mg_tupX (K := K) (mgs_consX (mg_name (pg_name (i := 4) sc_fits_lets.nd rfl (Or.inl rfl))) (mgs_consX (mg_name (pg_name (i := 5) sc_fits_lets.nd rfl (Or.inl rfl))) (mgs_nil) (fun y z => pgs_cons y z)) (fun y z => pgs_cons y z)) (nlen_cons (nlen_cons (nlen_nil))) (fun y => pg_tup rfl y)) (by decide) (fun _ _ _ _ _ => fts_nil) (fun _ _ _ _ _ => fe_cmp (op_ltA hr.units0) (sr_lt) (fe_var (pv 4)) (fe_var (pv 5)) (nomark _))) (fa_nil)) (fun z => pe_callB (cr_all rfl) (by rfl) T.n_all boot_allX z))))))⟩
end
end DL
/-! printed by gen.py: need_lets -/
namespace DL
open PySem L2
abbrev N_need_lets : List Str := ["case", "value"]
theorem sc_need_lets : FnScope N_need_lets ["case", "value"] (defScope s_need_lets) := ⟨rfl, rfl, rfl, by decide +kernel, rfl, by decide +kernel, by decide +kernel⟩
section
variable {P : Program} {w : World} {K : PySem.W.Frag} {mg : Str → Option Value} {base : Heap}
theorem ok_need_lets (T : Txt K mg) : FnOk P w K mg base CX0 3 T.a_need_lets T.fd_need_lets ["case", "value"] (spF 2 F_need_lets) :=
  fn_pure T.F_need_lets sc_need_lets rfl fun cdv A outer s H E hr => ⟨_, fs_one (fs_if (ft_not (ft_valc (fe_call (fa_cons (fe_var (pv 0)) (fa_cons (fe_var (pv 1)) (fa_nil))) (fun z => pe_call (ok_fits_lets T) (hr.mono (by decide)) (by rfl) T.m_fits_lets T.F_fits_lets.kp T.b_fits_lets .nil pass0 z)) (fun z => pt_val z))) (fs_one (fs_never)) (fs_nil))⟩
end
end DL
/-! printed by gen.py: need_often -/
namespace DL
open PySem L2
abbrev N_need_often : List Str := ["value"]
theorem sc_need_often : FnScope N_need_often ["value"] (defScope s_need_often) := ⟨rfl, rfl, rfl, by decide +kernel, rfl, by decide +kernel, by decide +kernel⟩
section
variable {P : Program} {w : World} {K : PySem.W.Frag} {mg : Str → Option Value} {base : Heap}
theorem ok_need_often (T : Txt K mg) : FnOk P w K mg base CX0 1 T.a_need_often T.fd_need_often ["value"] (spF 1 F_need_often) :=
  fn_pure T.F_need_often sc_need_often rfl fun cdv A outer s H E hr => ⟨_, fs_one (fs_if (ft_w (fw_or (ft_not (ft_valc (fe_isi kit_str (fe_var (pv 0)) (pe_bltn (by rfl) T.n_str boot_strX rfl) (fun z => pe_callB call_isi (by rfl) T.n_isinstance boot_isinstanceX z)) (fun z => pt_val z))) (fw_or1 (ft_cmp (op_notInA (hu65 hr)) (sr_notIn) (fe_var (pv 0)) (fe_tup (fa_cons (fe_gstr (pe_glob (by rfl) T.m_ONCE ⟨_, rfl⟩)) (fa_cons (fe_gstr (pe_glob (by rfl) T.m_ALWAYS ⟨_, rfl⟩)) (fa_nil)))) (by rfl))))) (fs_one (fs_never)) (fs_nil))⟩
end
end DL
/-! printed by gen.py: keys_hold -/
namespace DL
open PySem L2
abbrev N_keys_hold : List Str := ["case", "lets", "keys", "often"]
theorem sc_keys_hold : FnScope N_keys_hold ["case", "lets", "keys", "often"] (defScope s_keys_hold) := ⟨rfl, rfl, rfl, by decide +kernel, rfl, by decide +kernel, by decide +kernel⟩
section
variable {P : Program} {w : World} {K : PySem.W.Frag} {mg : Str → Option Value} {base : Heap}
theorem ok_keys_hold (T : Txt K mg) : FnOk P w K mg base CX0 6 T.a_keys_hold T.fd_keys_hold ["case", "lets", "keys", "often"] (spF 4 F_keys_hold) :=
  fn_pure T.F_keys_hold sc_keys_hold rfl fun cdv A outer s H E hr => ⟨_, fs_cons (fs_exprX (fe_call (fa_cons (fe_var (pv 0)) (fa_nil)) (fun z => pe_call (ok_need_case T) (hr.mono (by decide)) (by rfl) T.m_need_case T.F_need_case.kp T.b_need_case .nil pass0 z)) (fun z => ps_expr z)) (fs_cons (fs_exprX (fe_call (fa_cons (fe_var (pv 0)) (fa_cons (fe_var (pv 1)) (fa_nil))) (fun z => pe_call (ok_need_lets T) (hr.mono (by decide)) (by rfl) T.m_need_lets T.F_need_lets.kp T.b_need_lets .nil pass0 z)) (fun z => ps_expr z)) (fs_cons (fs_exprX (fe_call (fa_cons (fe_var (pv 0)) (fa_cons (fe_var (pv 2)) (fa_nil))) (fun z => pe_call (ok_need_keys T) (hr.mono (by decide)) (by rfl) T.m_need_keys T.F_need_keys.kp T.b_need_keys .nil pass0 z)) (fun z => ps_expr z)) (fs_cons (fs_exprX (fe_call (fa_cons (fe_var (pv 3)) (fa_nil)) (fun z => pe_call (ok_need_often T) (hr.mono (by decide)) (by rfl) T.m_need_often T.F_need_often.kp T.b_need_often .nil pass0 z)) (fun z => ps_expr z)) (fs_one (fs_ret (fe_call (fa_cons (fe_var (pv 0)) (fa_cons (fe_var (pv 1)) (fa_cons (fe_var (pv 2)) (fa_cons (fe_var (pv 3)) (fa_nil))))) (fun z => pe_call (ok_hold T) (hr.mono (by decide)) (by rfl) T.m_hold T.F_hold.kp T.b_hold .nil pass0 z)))))))⟩
end
end DL
/-! printed by gen.py: law_changes -/
namespace DL
open PySem L2
abbrev N_law_changes : List Str := ["_law_many", "_law_found", "_law_one", "_law_two"]
theorem sc_law_changes : FnScope N_law_changes ["_law_many"] (defScope s_law_changes) := ⟨rfl, rfl, rfl, by decide +kernel, rfl, by decide +kernel, by decide +kernel⟩
section
variable {P : Program} {w : World} {K : PySem.W.Frag} {mg : Str → Option Value} {base : Heap}
theorem ok_law_changes (T : Txt K mg) : FnOk P w K mg base CX0 1 T.a_law_changes T.fd_law_changes ["_law_many"] (spF 1 F_law_changes) :=
  fn_pure T.F_law_changes sc_law_changes rfl fun cdv A outer s H E hr => ⟨_, fs_cons (fs_set (i := 1) (fe_lst (fa_nil)) (fun z => ps_set (i := 1) sc_law_changes.nd rfl (Or.inl rfl) z)) (fs_cons (fs_for (fi_rg1 (by rfl) T.n_range (fe_var (pv 0))) (mg_name (pg_name (i := 2) sc_law_changes.nd rfl (Or.inr rfl))) (fs_one (fs_set (i := 1) (fe_op op_addA sr_add (fe_var (pv 1)) (fe_lc (own := [("_law_two", 3)]) rfl sc_law_changes.nd (fi_rg1 (by rfl) T.n_range (fe_var (pv 0))) (blkOk_by (own := [("_law_two", 3)]) (N := N_law_changes) (sc := (defScope s_law_changes)) (by decide +kernel)) (fun _ _ _ _ _ => mg_name (pg_name (i := 3) sc_law_changes.nd rfl (Or.inl rfl))) (by decide) (fun _ _ _ _ _ => fts_nil) (fun _ _ _ _ _ => fe_tup (fa_cons (fe_var (pv 2)) (fa_cons (fe_var (pv 3)) (fa_nil)))))) (fun z => ps_set (i := 1) sc_law_changes.nd rfl (Or.inl rfl) z))) (fun x y z => ps_for PassesOwn.never rfl x y z)) (fs_one (fs_ret (fe_var (pv 1)))))⟩
end
end DL
/-! DL11: how far: a dict of pairs filled turn by turn, the pairs found in a list (names: case, lets, most, row, far, turn, found, one, two, pair). -/
namespace DL
open PySem L2
open Evl (Ex)
abbrev Prs := List (Int × Int)
def prsD (ps : Prs) : List PyData := ps.map pairD
def envF (c l mo row : PyData) (far t fo i j : Option Slot) : DEnv := [some (.d c), some (.d l), some (.d mo), some (.d row), far, t, fo, i, j, none]
def stepF (q : PyData → PyData → Option Bool) (i : PyData) (acc : Prs) (j : PyData) : Option Prs := (q i j).bind fun b => if b = true then (match i, j with
  | .int a, .int b => if acc.length < 1000 then some (acc ++ [(a, b)]) else none
  | _, _ => none) else some acc
def rowF (q : PyData → PyData → Option Bool) (js : List PyData) (acc : Prs) (i : PyData) : Option Prs := js.foldlM (stepF q i) acc
def foundF (q : PyData → PyData → Option Bool) (is : List PyData) : Option Prs := is.foldlM (rowF q is) []
def putF (f : Far) (k : Int × Int) (t : Int) : Far := if f.any (fun p => decide (p.1 = k)) = true then f.map (fun p => if p.1 = k then (p.1, t) else p) else f ++ [(k, t)]
def putsF (t : Int) : Prs → Far → Option Far
  | [], f => some f
  | k :: ks, f => if f.length < 1000 then putsF t ks (putF f k t) else none
def turnsF (q : Far → PyData → PyData → PyData → Option Bool) (fe : PyData → Option Bool) (is : List PyData) : List PyData → Far → Option Far
  | [], f => some f
  | t :: ts, f => (foundF (q f t) is).bind fun fo => (asI t).bind fun ti => (putsF ti fo f).bind fun f' => (fe (.list (prsD fo))).bind fun b => if b = true then some f' else turnsF q fe is ts f'
def farF (frow : FM) (fiT fiI : FAa) (cond feq : FTt) : List PyData → Option Far
  | [c, l, mo] => (frow (startD 7 [c, l, mo])).bind fun row => (fiT (envF c l mo row none none none none none)).bind fun ts => (fiI (envF c l mo row none none none none none)).bind fun is =>
    turnsF (fun f t i j => cond (envF c l mo row (some (.far f)) (some (.d t)) none (some (.d i)) (some (.d j)))) (fun x => feq (envF c l mo row none none (some (.d x)) none none)) is ts []
  | _ => none
theorem any_far (a b : Int) : ∀ f : Far, ((farK f).any fun kv => decide (kv.1 = ([Sum.inl a, Sum.inl b] : List Key))) = f.any fun p => decide (p.1 = (a, b))
  | [] => rfl
  | p :: f => by
    show (decide (([Sum.inl p.1.1, Sum.inl p.1.2] : List Key) = [Sum.inl a, Sum.inl b]) || (farK f).any _) = (decide (p.1 = (a, b)) || f.any _)
    rw [any_far a b f]
    by_cases e : p.1 = (a, b)
    · rw [decide_eq_true e, decide_eq_true (by rw [e])]
    · rw [decide_eq_false e, decide_eq_false (key_ne e)]
theorem put_far (f : Far) (a b t : Int) : putK (farK f) [Sum.inl a, Sum.inl b] (.int t) = farK (putF f (a, b) t) := by
  unfold putK putF
  rw [any_far]
  split
  · unfold farK
    rw [List.map_map, List.map_map]
    refine List.map_congr_left fun p _ => ?_
    have z : (([Sum.inl p.1.1, Sum.inl p.1.2] : List Key) = [Sum.inl a, Sum.inl b]) ↔ p.1 = (a, b) := ⟨fun h => Classical.byContradiction fun e => key_ne e h, fun e => by rw [e]⟩
    by_cases e : p.1 = (a, b)
    · simp [Function.comp, e]
    · simp [Function.comp, e, key_ne e]
  · unfold farK
    rw [List.map_append]
    rfl
/-- a slot whose value is known -/
theorem EnvOk.at' {m : Option Addr} {G : Hp} {σ : St} {ρ : DEnv} {i : Nat} {v : V} {s : Slot} (h : EnvOk m G σ ρ) (hv : σ[i]? = some (some v)) (hs : SlotOk m G v s) : EnvOk m G σ (ρ.set i (some s)) := by
  have z := h.set (i := i) hs
  have e : σ.set i (some v) = σ := by
    refine List.ext_getElem? fun j => ?_
    by_cases hj : i = j
    · subst hj
      rw [List.getElem?_set_self (by
        obtain ⟨hl, _⟩ := List.getElem?_eq_some_iff.mp hv
        exact hl), hv]
    · rw [List.getElem?_set_ne hj]
  rw [e] at z
  exact z
structure FB (ρ : DEnv) (H0 : Hp) (d : Addr) (f : Far) (σ : St) (G H : Hp) : Prop where
  s : StOk none G H
  env : EnvOk none G σ ρ
  s4 : σ[4]? = some (some (.ref d))
  hd : H d = some (.dT (farK f))
  gd : G d = none
  old : Ex H0 H
  d0 : H0 d = none
structure FO (H0 : Hp) (d l : Addr) (acc : Prs) (σ : St) (G H : Hp) : Prop where
  s6 : σ[6]? = some (some (.ref l))
  hl : ∃ vs, H l = some (.lst vs) ∧ DdAll G vs (prsD acc)
  gl : G l = none
  ne : l ≠ d
  l0 : H0 l = none
section
variable {ρ ρ' : DEnv} {H0 : Hp} {d l : Addr} {f : Far} {acc : Prs} {σ : St} {G H G2 H2 : Hp}
theorem FB.up (b : FB ρ H0 d f σ G H) (w : Grow none G H G2 H2) : FB ρ H0 d f σ G2 H2 := ⟨w.st, b.env.up w.g, b.s4, w.ex _ _ b.hd, w.nog b.hd b.gd, b.old.trans w.ex, b.d0⟩
theorem FO.up (o : FO H0 d l acc σ G H) (w : Grow none G H G2 H2) : FO H0 d l acc σ G2 H2 := by
  obtain ⟨vs, h1, h2⟩ := o.hl
  exact ⟨o.s6, ⟨vs, w.ex _ _ h1, h2.up w.g⟩, w.nog h1 o.gl, o.ne, o.l0⟩
theorem FB.ext (b : FB ρ H0 d f σ G H) (x : Ex H H2) (s : StOk none G H2) : FB ρ H0 d f σ G H2 := ⟨s, b.env, b.s4, x _ _ b.hd, b.gd, b.old.trans x, b.d0⟩
theorem FO.ext (o : FO H0 d l acc σ G H) (x : Ex H H2) : FO H0 d l acc σ G H2 := by
  obtain ⟨vs, h1, h2⟩ := o.hl
  exact ⟨o.s6, ⟨vs, x _ _ h1, h2⟩, o.gl, o.ne, o.l0⟩
theorem FB.le (b : FB ρ H0 d f σ G H) (h : EnvLe ρ' ρ) : FB ρ' H0 d f σ G H := ⟨b.s, b.env.le h, b.s4, b.hd, b.gd, b.old, b.d0⟩
theorem FB.set {i : Nat} {v : V} {x : PyData} (b : FB ρ H0 d f σ G H) (hi : i ≠ 4) (h : Dd G v x) : FB (ρ.set i (some (.d x))) H0 d f (σ.set i (some v)) G H :=
  ⟨b.s, b.env.set (s := .d x) h, by rw [List.getElem?_set_ne hi]; exact b.s4, b.hd, b.gd, b.old, b.d0⟩
theorem FO.set {i : Nat} {v : V} (o : FO H0 d l acc σ G H) (hi : i ≠ 6) : FO H0 d l acc (σ.set i (some v)) G H := ⟨by rw [List.getElem?_set_ne hi]; exact o.s6, o.hl, o.gl, o.ne, o.l0⟩
end
theorem envLe_refl : ∀ {ρ : DEnv}, EnvLe ρ ρ
  | [] => True.intro
  | _ :: _ => ⟨.inr rfl, envLe_refl⟩
def tApp (K : PySem.W.Frag) (tpair : TE) : TE := tBM K "list" rAppend (tVar 6) (tCons tpair tNil)
def fPair : FM := fTup (fCons (fVar 7) (fCons (fVar 8) fNil))
section
variable {K : PySem.W.Frag} {tcond teq : TT} {tpair : TE} {wiT wiI wiJ wiL : TI} {cond feq : FTt} {fiI fiT : FAa} {c l mo row : PyData} {H0 : Hp} {d : Addr}
/-- one turn of the inner loop -/
theorem far_step (hc : SndT tcond (lift cond)) (hp : SndE tpair (lift fPair)) {f : Far} {t i j : PyData} {acc acc' : Prs} {lp : Addr} {σ : St} {G H : Hp} {N : St → Hp → Prop} {D : Ends} {v : V}
    (hs : stepF (fun i j => cond (envF c l mo row (some (.far f)) (some (.d t)) none (some (.d i)) (some (.d j)))) i acc j = some acc')
    (b : FB (envF c l mo row none (some (.d t)) none (some (.d i)) none) H0 d f σ G H) (o : FO H0 d lp acc σ G H) (dv : Dd G v j)
    (hN : ∀ σ2 G2 H2, Ex G G2 → FB (envF c l mo row none (some (.d t)) none (some (.d i)) none) H0 d f σ2 G2 H2 ∧ FO H0 d lp acc' σ2 G2 H2 → N σ2 H2) :
    tIfS tcond (tDrop (tApp K tpair)) tNext { D with nx := N, ct := N, bk := D.nx } (σ.set 8 (some v)) H := by
  obtain ⟨bb, hcb, hs⟩ := of_bind hs
  have b1 := b.set (i := 8) (by decide) dv
  have o1 := o.set (i := 8) (v := v) (by decide)
  have hl : EnvLe (envF c l mo row none (some (.d t)) none (some (.d i)) none) ((envF c l mo row none (some (.d t)) none (some (.d i)) none).set 8 (some (.d j))) :=
    ⟨.inr rfl, .inr rfl, .inr rfl, .inr rfl, .inr rfl, .inr rfl, .inr rfl, .inr rfl, .inl rfl, .inr rfl, True.intro⟩
  have he : EnvOk none (upd G d (.dT (farK f))) (σ.set 8 (some v)) (envF c l mo row (some (.far f)) (some (.d t)) none (some (.d i)) (some (.d j))) :=
    (b1.env.up (Evl.Ex.new b.gd)).at' (i := 4) (s := .far f) b1.s4 ⟨d, rfl, upd_same⟩
  refine hide_t hc hcb b1.s b1.gd b1.hd he fun H1 hx s1 => ?_
  have b2 := b1.ext hx s1
  have o2 := o1.ext hx
  cases bb with
  | false =>
    cases hs
    exact hN _ G H1 (Evl.Ex.refl G) ⟨b2.le hl, o2⟩
  | true =>
    rw [if_pos rfl] at hs
    split at hs
    · rename_i ai bi _hs
      split at hs
      · rename_i hlen
        cases hs
        obtain ⟨vs, hv, hvd⟩ := o2.hl
        refine ⟨_, o2.s6, .inl ⟨rfl, vs, SqL.of hv⟩, ?_⟩
        refine hp none _ (fun z => z = pairD (ai, bi)) ⟨_, rfl, rfl⟩ _ G H1 b2.s b2.env _ fun x y G3 H3 ex w3 d3 => ?_
        subst ex
        have b3 := b2.up w3
        have o3 := o2.up w3
        obtain ⟨vs3, hv3, hvd3⟩ := o3.hl
        refine ⟨lp, vs3, y, rfl, rfl, hv3, ?_, ?_⟩
        · have := hvd3.len
          unfold prsD at this
          rw [List.length_map] at this
          have : sizeLine = 16777216 := sizeLine_eq
          omega
        · refine hN _ G3 _ w3.g ⟨?_, ?_⟩
          · refine FB.le ⟨b3.s.put o3.gl (fun z => nomatch z), b3.env, b3.s4, ?_, b3.gd, fun a u e => ?_, b3.d0⟩ hl
            · rw [upd_ne o3.ne.symm]
              exact b3.hd
            · rw [upd_ne (ne_of_none e o3.l0)]
              exact b3.old _ _ e
          · refine ⟨o3.s6, ⟨_, upd_same, ?_⟩, o3.gl, o3.ne, o3.l0⟩
            unfold prsD
            rw [List.map_append]
            exact hvd3.app (.cons d3 .nil)
      · cases hs
    · cases hs
theorem drop_cons {α : Type} {xs : List α} {i : Nat} {x : α} (h : xs[i]? = some x) : xs.drop i = x :: xs.drop (i + 1) := by
  obtain ⟨hl, e⟩ := List.getElem?_eq_some_iff.mp h
  rw [List.drop_eq_getElem_cons hl, e]
/-- the inner loop -/
theorem far_row (hc : SndT tcond (lift cond)) (hp : SndE tpair (lift fPair)) (hJ : SndI wiJ (lift fiI)) {is : List PyData} (his : fiI (envF c l mo row none none none none none) = some is)
    {f : Far} {t i : PyData} {acc fin : Prs} {lp : Addr} {σ : St} {G H : Hp} {N : St → Hp → Prop} {D : Ends} {v : V}
    (hs : rowF (fun i j => cond (envF c l mo row (some (.far f)) (some (.d t)) none (some (.d i)) (some (.d j)))) is acc i = some fin)
    (b : FB (envF c l mo row none (some (.d t)) none none none) H0 d f σ G H) (o : FO H0 d lp acc σ G H) (dv : Dd G v i)
    (hN : ∀ σ2 G2 H2, Ex G G2 → FB (envF c l mo row none (some (.d t)) none none none) H0 d f σ2 G2 H2 ∧ FO H0 d lp fin σ2 G2 H2 → N σ2 H2) :
    tFor wiJ (gName 8) (tIfS tcond (tDrop (tApp K tpair)) tNext) { D with nx := N, ct := N, bk := D.nx } (σ.set 7 (some v)) H := by
  have b1 := b.set (i := 7) (by decide) dv
  have o1 := o.set (i := 7) (v := v) (by decide)
  have hl0 : EnvLe (envF c l mo row none none none none none) ((envF c l mo row none (some (.d t)) none none none).set 7 (some (.d i))) :=
    ⟨.inr rfl, .inr rfl, .inr rfl, .inr rfl, .inr rfl, .inl rfl, .inr rfl, .inl rfl, .inr rfl, .inr rfl, True.intro⟩
  have hl1 : EnvLe (envF c l mo row none (some (.d t)) none none none) ((envF c l mo row none (some (.d t)) none none none).set 7 (some (.d i))) :=
    ⟨.inr rfl, .inr rfl, .inr rfl, .inr rfl, .inr rfl, .inr rfl, .inr rfl, .inl rfl, .inr rfl, .inr rfl, True.intro⟩
  refine raw_for hJ his b1.s (b1.env.le hl0) (fun k σ' G' H' => Ex G G' ∧ ∃ a, (is.drop k).foldlM (stepF (fun i j => cond (envF c l mo row (some (.far f)) (some (.d t)) none (some (.d i)) (some (.d j)))) i) a = some fin ∧
    FB (envF c l mo row none (some (.d t)) none (some (.d i)) none) H0 d f σ' G' H' ∧ FO H0 d lp a σ' G' H') (fun G' H' w => ⟨w.g, acc, hs, b1.up w, o1.up w⟩) (fun k σ' G' H' h => let ⟨_, _, _, b, _⟩ := h; b.s)
    (fun k σ' G' H' G2 H2 h w => let ⟨x, a, e, b, o⟩ := h; ⟨x.trans w.g, a, e, b.up w, o.up w⟩) (fun k dj v' σ' G' H' N' hk h dv' hN' => ?_) (fun σ' G' H' hx h => ?_)
  · obtain ⟨hx, a, e, b, o⟩ := h
    rw [drop_cons hk, List.foldlM_cons] at e
    obtain ⟨a', ha, e⟩ := of_bind e
    exact far_step hc hp ha b o dv' fun σ2 G2 H2 x2 q => hN' σ2 G2 H2 x2 ⟨hx.trans x2, a', e, q.1, q.2⟩
  · obtain ⟨hx, a, e, b, o⟩ := h
    rw [List.drop_length] at e
    cases e
    exact hN _ _ _ hx ⟨b.le hl1, o⟩
/-- both loops -/
theorem far_found (hc : SndT tcond (lift cond)) (hp : SndE tpair (lift fPair)) (hI : SndI wiI (lift fiI)) (hJ : SndI wiJ (lift fiI)) {is : List PyData} (his : fiI (envF c l mo row none none none none none) = some is)
    {f : Far} {t : PyData} {fo : Prs} {lp : Addr} {σ : St} {G H : Hp} {D : Ends}
    (hs : foundF (fun i j => cond (envF c l mo row (some (.far f)) (some (.d t)) none (some (.d i)) (some (.d j)))) is = some fo)
    (b : FB (envF c l mo row none (some (.d t)) none none none) H0 d f σ G H) (o : FO H0 d lp [] σ G H)
    (hN : ∀ σ2 G2 H2, Ex G G2 → FB (envF c l mo row none (some (.d t)) none none none) H0 d f σ2 G2 H2 → FO H0 d lp fo σ2 G2 H2 → D.nx σ2 H2) :
    tFor wiI (gName 7) (tFor wiJ (gName 8) (tIfS tcond (tDrop (tApp K tpair)) tNext)) D σ H := by
  have hl0 : EnvLe (envF c l mo row none none none none none) (envF c l mo row none (some (.d t)) none none none) :=
    ⟨.inr rfl, .inr rfl, .inr rfl, .inr rfl, .inr rfl, .inl rfl, .inr rfl, .inr rfl, .inr rfl, .inr rfl, True.intro⟩
  refine raw_for hI his b.s (b.env.le hl0) (fun k σ' G' H' => Ex G G' ∧ ∃ a, (is.drop k).foldlM (rowF (fun i j => cond (envF c l mo row (some (.far f)) (some (.d t)) none (some (.d i)) (some (.d j)))) is) a = some fo ∧
    FB (envF c l mo row none (some (.d t)) none none none) H0 d f σ' G' H' ∧ FO H0 d lp a σ' G' H') (fun G' H' w => ⟨w.g, [], hs, b.up w, o.up w⟩) (fun k σ' G' H' h => let ⟨_, _, _, b, _⟩ := h; b.s)
    (fun k σ' G' H' G2 H2 h w => let ⟨x, a, e, b, o⟩ := h; ⟨x.trans w.g, a, e, b.up w, o.up w⟩) (fun k dj v' σ' G' H' N' hk h dv' hN' => ?_) (fun σ' G' H' hx h => ?_)
  · obtain ⟨hx, a, e, b, o⟩ := h
    rw [drop_cons hk, List.foldlM_cons] at e
    obtain ⟨a', ha, e⟩ := of_bind e
    exact far_row hc hp hJ his ha b o dv' fun σ2 G2 H2 x2 q => hN' σ2 G2 H2 x2 ⟨hx.trans x2, a', e, q.1, q.2⟩
  · obtain ⟨hx, a, e, b, o⟩ := h
    rw [List.drop_length] at e
    cases e
    exact hN _ _ _ hx b o
/-- the put loop -/
theorem far_puts (hL : SndI wiL (lift (fItL (fVar 6)))) {ti : Int} {fo : Prs} {f fin : Far} {σ : St} {G H : Hp} {D : Ends} (hs : putsF ti fo f = some fin)
    (b : FB (envF c l mo row none (some (.d (.int ti))) (some (.d (.list (prsD fo)))) none none) H0 d f σ G H)
    (hN : ∀ σ2 G2 H2, Ex G G2 → FB (envF c l mo row none (some (.d (.int ti))) (some (.d (.list (prsD fo)))) none none) H0 d fin σ2 G2 H2 → D.nx σ2 H2) :
    tFor wiL (gName 9) (sDPut (tVar 4) (tVar 9) (tVar 5)) D σ H := by
  refine raw_for (fi := fItL (fVar 6)) (ds := prsD fo) hL rfl b.s b.env (fun k σ' G' H' => Ex G G' ∧ ∃ f', putsF ti (fo.drop k) f' = some fin ∧ FB (envF c l mo row none (some (.d (.int ti))) (some (.d (.list (prsD fo)))) none none) H0 d f' σ' G' H')
    (fun G' H' w => ⟨w.g, f, hs, b.up w⟩) (fun k σ' G' H' h => let ⟨_, _, _, b⟩ := h; b.s) (fun k σ' G' H' G2 H2 h w => let ⟨x, f', e, b⟩ := h; ⟨x.trans w.g, f', e, b.up w⟩) (fun k dj v' σ' G' H' N' hk h dv' hN' => ?_) (fun σ' G' H' hx h => ?_)
  · obtain ⟨hx, f', e, b⟩ := h
    unfold prsD at hk
    rw [List.getElem?_map] at hk
    obtain ⟨p, hp, rfl⟩ := Option.map_eq_some_iff.mp hk
    rw [drop_cons hp] at e
    unfold putsF at e
    split at e
    · rename_i hlen
      obtain ⟨v5, h5, d5⟩ := b.env.at_ 5 _ rfl
      cases d5
      cases dv' with
      | tup e1 a1 =>
        rename_i q _
        cases a1 with
        | cons b1 bs =>
          cases bs with
          | cons b2 bs =>
            cases bs
            cases b1
            cases b2
            have b0 := b.set (i := 9) (by decide) (Dd.tup e1 (.cons (.int p.1) (.cons (.int p.2) .nil)) : Dd G' (.ref q) (pairD p))
            have hl9 : EnvLe (envF c l mo row none (some (.d (.int ti))) (some (.d (.list (prsD fo)))) none none) ((envF c l mo row none (some (.d (.int ti))) (some (.d (.list (prsD fo)))) none none).set 9 (some (.d (pairD p)))) :=
              ⟨.inr rfl, .inr rfl, .inr rfl, .inr rfl, .inr rfl, .inr rfl, .inr rfl, .inr rfl, .inr rfl, .inl rfl, True.intro⟩
            have b9 := b0.le hl9
            have h9 : (σ'.set 9 (some (.ref q)))[9]? = some (some (.ref q)) := by
              rw [List.getElem?_set_self]
              rw [← b.env.len]
              show 9 < 10
              decide
            refine ⟨_, by rw [List.getElem?_set_ne (by decide)]; exact h5, _, b9.s4, _, h9, d, _, rfl, DPut.t (k := [Sum.inl p.1, Sum.inl p.2]) b9.hd (b9.s.ex _ _ e1) ?_, ?_⟩
            · unfold farK
              rw [List.length_map]
              have : sizeLine = 16777216 := sizeLine_eq
              omega
            · rw [put_far]
              refine hN' _ G' _ (Evl.Ex.refl G') ⟨hx, _, e, b9.s.put b9.gd (fun z => nomatch z), b9.env, b9.s4, upd_same, b9.gd, fun a u ea => ?_, b9.d0⟩
              rw [upd_ne (ne_of_none ea b9.d0)]
              exact b9.old _ _ ea
    · cases e
  · obtain ⟨hx, f', e, b⟩ := h
    unfold prsD at e
    rw [List.length_map, List.drop_length] at e
    cases e
    exact hN _ _ _ hx b
/-- the turns -/
theorem far_walk {wiT : TI} {te : TE} {frow : FM} (hrow : SndE te (lift frow)) (hT : SndI wiT (lift fiT)) (hc : SndT tcond (lift cond)) (hp : SndE tpair (lift fPair)) (hI : SndI wiI (lift fiI)) (hJ : SndI wiJ (lift fiI)) (hL : SndI wiL (lift (fItL (fVar 6)))) (hq : SndT teq (lift feq))
    {N : List Str} (hn : N.length = 10) {vs : List V} {ds : List PyData} {G : Hp} {fin : Far} (hF : farF frow fiT fiI cond feq ds = some fin) (hx : Ex G H0) (hd : DdAll G vs ds) {D : Ends}
    (hQ : ∀ d H', Ex H0 H' → H0 d = none → H' d = some (.dT (farK fin)) → D.rt (.ref d) H') :
    tSeq (tPar 3 4 (tCons te (tCons tDNewT tNil))) (tSeq (tFor wiT (gName 5) (tSeq (tAsg (tLst tNil) (gName 6)) (tSeq (tFor wiI (gName 7) (tFor wiJ (gName 8) (tIfS tcond (tDrop (tApp K tpair)) tNext)))
      (tSeq (tFor wiL (gName 9) (sDPut (tVar 4) (tVar 9) (tVar 5))) (tIfS teq (tRet (tVar 4)) tNext))))) (tRet (tVar 4))) D (L2.start N vs) H0 := by
  unfold farF at hF
  split at hF
  · rename_i c l mo
    obtain ⟨row, hrw, hF⟩ := of_bind hF
    obtain ⟨ts, hts, hF⟩ := of_bind hF
    obtain ⟨is, his, hF⟩ := of_bind hF
    have s0 : StOk none G H0 := ⟨hx, fun _ e => nomatch e⟩
    have e0 := env_start (m := none) (N := N) (n := 7) hd (by rw [hd.len]; exact hn)
    refine hrow none _ (fun z => z = row) ⟨row, hrw, rfl⟩ _ G H0 s0 e0 _ fun x v G1 H1 ex w1 d1 => ?_
    subst ex
    refine fun d hd1 => ⟨v, .ref d, rfl, ?_⟩
    have g1 := w1.st.nog hd1
    have hf0 : H0 d = none := by
      cases q : H0 d with
      | none => rfl
      | some u =>
        have := w1.ex _ _ q
        rw [hd1] at this
        cases this
    have w2 := Grow.hid (o := .dT (farK [])) w1.st hd1
    have hl4 : ∀ {σ : St} {G : Hp}, EnvOk none G σ (((startD 7 [c, l, mo]).set 3 (some (.d x)))) → EnvOk none G (σ.set 4 (some (.ref d))) (envF c l mo x none none none none none) := fun h => by
      have z := EnvOk.forget (i := 4) (x := some (.ref d)) h
      exact z
    have b0 : FB (envF c l mo x none none none none none) H0 d [] (((L2.start N vs).set 3 (some v)).set 4 (some (.ref d))) G1 (upd H1 d (.dT (farK []))) := by
      refine ⟨w2.st, hl4 ((e0.up w1.g).set (i := 3) (s := .d x) d1), ?_, upd_same, g1, w1.ex.trans w2.ex, hf0⟩
      rw [List.getElem?_set_self]
      rw [List.length_set, ← e0.len]
      show 4 < (startD 7 [c, l, mo]).length
      exact (by decide : 4 < 10)
    have back : ∀ {t fo i j : Option Slot}, EnvLe (envF c l mo x none none none none none) (envF c l mo x none t fo i j) := fun {t fo i j} =>
      ⟨.inr rfl, .inr rfl, .inr rfl, .inr rfl, .inr rfl, .inl rfl, .inl rfl, .inl rfl, .inl rfl, .inr rfl, True.intro⟩
    refine raw_for hT hts b0.s b0.env (fun k σ' G' H' => Ex G1 G' ∧ ∃ f', turnsF (fun f t i j => cond (envF c l mo x (some (.far f)) (some (.d t)) none (some (.d i)) (some (.d j)))) (fun y => feq (envF c l mo x none none (some (.d y)) none none)) is (ts.drop k) f' = some fin ∧
      FB (envF c l mo x none none none none none) H0 d f' σ' G' H') (fun G' H' w => ⟨w.g, [], hF, b0.up w⟩) (fun k σ' G' H' h => let ⟨_, _, _, b⟩ := h; b.s) (fun k σ' G' H' G2 H2 h w => let ⟨x, f', e, b⟩ := h; ⟨x.trans w.g, f', e, b.up w⟩)
      (fun k t v' σ' G' H' N' hk h dv' hN' => ?_) (fun σ' G' H' hx h => ?_)
    · obtain ⟨hx1, f', e, b⟩ := h
      rw [drop_cons hk] at e
      obtain ⟨fo, hfo, e⟩ := of_bind e
      obtain ⟨ti, hti, e⟩ := of_bind e
      obtain ⟨f2, hf2, e⟩ := of_bind e
      obtain ⟨bb, hbb, e⟩ := of_bind e
      have et : t = .int ti := by
        unfold asI at hti
        split at hti
        · cases hti
          rfl
        · cases hti
      subst et
      have b1 := b.set (i := 5) (by decide) dv'
      refine ⟨by show 0 ≤ sizeLine; exact Nat.zero_le _, fun lp hlp => ?_⟩
      have w3 := Grow.hid (o := .lst []) b1.s hlp
      have b2 := b1.up w3
      have ne : lp ≠ d := fun z => by
        rw [z, b1.hd] at hlp
        cases hlp
      have l0 : H0 lp = none := by
        cases q : H0 lp with
        | none => rfl
        | some u =>
          have := b1.old _ _ q
          rw [hlp] at this
          cases this
      have b3 : FB (envF c l mo x none (some (.d (.int ti))) none none none) H0 d f' ((σ'.set 5 (some v')).set 6 (some (.ref lp))) G' (upd H' lp (.lst [])) :=
        ⟨b2.s, EnvOk.forget (i := 6) b2.env, by rw [List.getElem?_set_ne (by decide)]; exact b2.s4, b2.hd, b2.gd, b2.old, b2.d0⟩
      have o3 : FO H0 d lp [] ((σ'.set 5 (some v')).set 6 (some (.ref lp))) G' (upd H' lp (.lst [])) := by
        refine ⟨?_, ⟨[], upd_same, .nil⟩, b1.s.nog hlp, ne, l0⟩
        rw [List.getElem?_set_self]
        rw [← b1.env.len]
        exact (by decide : 6 < 10)
      refine far_found (is := is) hc hp hI hJ his hfo b3 o3 fun σ4 G4 H4 x4 b4 o4 => ?_
      obtain ⟨vl, hvl, hvd⟩ := o4.hl
      have x5 : Ex G4 (upd G4 lp (.lst vl)) := Evl.Ex.new o4.gl
      have b5 : FB (envF c l mo x none (some (.d (.int ti))) (some (.d (.list (prsD fo)))) none none) H0 d f' σ4 (upd G4 lp (.lst vl)) H4 := by
        refine ⟨⟨fun a u ea => ?_, fun _ z => nomatch z⟩, (b4.env.up x5).at' (i := 6) (s := .d (.list (prsD fo))) o4.s6 (.lst upd_same (hvd.up x5)), b4.s4, b4.hd, by rw [upd_ne o4.ne.symm]; exact b4.gd, b4.old, b4.d0⟩
        by_cases ha : a = lp
        · subst ha
          rw [upd_same] at ea
          rw [← ea]
          exact hvl
        · rw [upd_ne ha] at ea
          exact b4.s.ex _ _ ea
      refine far_puts hL hf2 b5 fun σ6 G6 H6 x6 b6 => ?_
      have hl6 : EnvLe (envF c l mo x none none (some (.d (.list (prsD fo)))) none none) (envF c l mo x none (some (.d (.int ti))) (some (.d (.list (prsD fo)))) none none) :=
        ⟨.inr rfl, .inr rfl, .inr rfl, .inr rfl, .inr rfl, .inl rfl, .inr rfl, .inr rfl, .inr rfl, .inr rfl, True.intro⟩
      refine hq none _ (fun z => z = bb) ⟨bb, hbb, rfl⟩ _ G6 H6 b6.s (b6.env.le hl6) _ fun bb' G7 H7 eb w7 => ?_
      subst eb
      have b7 := b6.up w7
      have x7 : Ex G' G7 := x4.trans (x5.trans (x6.trans w7.g))
      cases bb' with
      | true =>
        cases e
        exact ⟨_, b7.s4, hQ d H7 b7.old b7.d0 b7.hd⟩
      | false => exact hN' _ _ _ x7 ⟨hx1.trans x7, f2, e, b7.le back⟩
    · obtain ⟨hx1, f', e, b⟩ := h
      rw [List.drop_length] at e
      cases e
      exact ⟨_, b.s4, hQ d H' b.old b.d0 b.hd⟩
  · cases hF
end
section
variable {X : Cx} {body : List Stmt} {tgT tgI tgJ tgL eT eI eJ eL erow epair ec eq : Expr} {tcond teq : TT} {te tpair : TE} {wiT wiI wiJ wiL : TI} {frow : FM} {cond feq : FTt} {fiI fiT : FAa}
theorem far_mk (hps : PE X erow te → PI X tgT eT wiT → PI X tgI eI wiI → PI X tgJ eJ wiJ → PT X ec tcond → PE X epair tpair → PI X tgL eL wiL → PT X eq teq →
    PSs X body (tSeq (tPar 3 4 (tCons te (tCons tDNewT tNil))) (tSeq (tFor wiT (gName 5) (tSeq (tAsg (tLst tNil) (gName 6)) (tSeq (tFor wiI (gName 7) (tFor wiJ (gName 8) (tIfS tcond (tDrop (tApp X.K tpair)) tNext)))
      (tSeq (tFor wiL (gName 9) (sDPut (tVar 4) (tVar 9) (tVar 5))) (tIfS teq (tRet (tVar 4)) tNext))))) (tRet (tVar 4)))))
    (hrow : FE X erow te frow) (hT : FI X tgT eT wiT fiT) (hI : FI X tgI eI wiI fiI) (hJ : FI X tgJ eJ wiJ fiI) (hc : FT X ec tcond cond) (hp : FE X epair tpair fPair) (hL : FI X tgL eL wiL (fItL (fVar 6))) (hq : FT X eq teq feq)
    {N : List Str} (hn : N.length = 10) {vs : List V} {ds : List PyData} {G H0 : Hp} {fin : Far} (hF : farF frow fiT fiI cond feq ds = some fin) (hx : Ex G H0) (hd : DdAll G vs ds) {D : Ends}
    (hQ : ∀ d H', Ex H0 H' → H0 d = none → H' d = some (.dT (farK fin)) → D.rt (.ref d) H') : ∃ t, PSs X body t ∧ t D (L2.start N vs) H0 :=
  ⟨_, hps hrow.pe hT.pi hI.pi hJ.pi hc.pt hp.pe hL.pi hq.pt, far_walk hrow.snd hT.snd hc.snd hp.snd hI.snd hJ.snd hL.snd hq.snd hn hF hx hd hQ⟩
end
end DL
/-! printed by gen.py: law_behind -/
namespace DL
open PySem L2
abbrev N_law_behind : List Str := ["_law_case_here", "_law_thing", "_law_change"]
theorem sc_law_behind : FnScope N_law_behind ["_law_case_here", "_law_thing", "_law_change"] (defScope s_law_behind) := ⟨rfl, rfl, rfl, by decide +kernel, rfl, by decide +kernel, by decide +kernel⟩
section
variable {P : Program} {w : World} {K : PySem.W.Frag} {mg : Str → Option Value} {base : Heap}
theorem ok_law_behind (T : Txt K mg) : FnOk P w K mg base CX0 1 T.a_law_behind T.fd_law_behind ["_law_case_here", "_law_thing", "_law_change"] (spF 3 F_law_behind) :=
  fn_pure T.F_law_behind sc_law_behind rfl fun cdv A outer s H E hr => ⟨_, fs_one (fs_ret (fe_ix ix_A sr_ix (fe_ix ix_A sr_ix (fe_ix ix_A sr_ix (fe_var (pv 0)) (fe_int) (fun _ _ => rfl)) (fe_var (pv 1)) (fun _ _ => rfl)) (fe_ix ix_A sr_ix (fe_var (pv 2)) (fe_int) (fun _ _ => rfl)) (fun _ _ => rfl)))⟩
end
end DL
/-! printed by gen.py: law_answer -/
namespace DL
open PySem L2
abbrev N_law_answer : List Str := ["_law_case_here", "_law_thing", "_law_change", "_law_there"]
theorem sc_law_answer : FnScope N_law_answer ["_law_case_here", "_law_thing", "_law_change"] (defScope s_law_answer) := ⟨rfl, rfl, rfl, by decide +kernel, rfl, by decide +kernel, by decide +kernel⟩
section
variable {P : Program} {w : World} {K : PySem.W.Frag} {mg : Str → Option Value} {base : Heap}
theorem ok_law_answer (T : Txt K mg) : FnOk P w K mg base CX0 2 T.a_law_answer T.fd_law_answer ["_law_case_here", "_law_thing", "_law_change"] (spF 3 F_law_answer) :=
  fn_pure T.F_law_answer sc_law_answer rfl fun cdv A outer s H E hr => ⟨_, fs_cons (fs_set (i := 3) (fe_call (fa_cons (fe_var (pv 0)) (fa_cons (fe_var (pv 1)) (fa_cons (fe_var (pv 2)) (fa_nil)))) (fun z => pe_call (ok_law_behind T) (hr.mono (by decide)) (by rfl) T.m_law_behind T.F_law_behind.kp T.b_law_behind .nil pass0 z)) (fun z => ps_set (i := 3) sc_law_answer.nd rfl (Or.inl rfl) z)) (fs_one (fs_ret (fe_if (ft_isN (fe_var (pv 3))) (fe_non) (fe_ix ix_A sr_ix (fe_ix ix_A sr_ix (fe_var (pv 0)) (fe_int) (fun _ _ => rfl)) (fe_var (pv 3)) (fun _ _ => rfl)))))⟩
end
end DL
/-! printed by gen.py: law_is_near -/
namespace DL
open PySem L2
def b_law_is_near : FSt := fSeq (fFor (fItT (fVar 1)) (pgName 6) (fIfS (fTest (fOp (eqD) (fOp ixD (fVar 6) (fC (.int 0))) (fOp ixD (fOp ixD (fOp ixD (fVar 0) (fC (.int 0))) (fC (.int 1))) (fVar 3)))) (fSeq (fIfS (fAnd (fTest (fOp (eqD) (fVar 5) (fC (.int 1)))) (fTest (fOp (neD) (fCall F_law_answer (fCons (fVar 0) (fCons (fVar 3) (fCons (fVar 6) (fNil))))) (fCall F_law_answer (fCons (fVar 0) (fCons (fVar 4) (fCons (fVar 6) (fNil)))))))) (fRet (fC (.bool true))) (fNext)) (fIfS (fAnd (fTest (fOp (cmpD fun i j => decide (j < i)) (fVar 5) (fC (.int 1)))) (fTest (fOp (eqD) (fGetF 2 (fTup (fCons (fCall F_law_behind (fCons (fVar 0) (fCons (fVar 3) (fCons (fVar 6) (fNil))))) (fCons (fCall F_law_behind (fCons (fVar 0) (fCons (fVar 4) (fCons (fVar 6) (fNil))))) (fNil)))) (fC (.int 0))) (fOp subD (fVar 5) (fC (.int 1)))))) (fRet (fC (.bool true))) (fNext))) (fNext))) (fRet (fC (.bool false)))
abbrev N_law_is_near : List Str := ["_law_case_here", "_law_lets_here", "_law_far_here", "_law_one", "_law_two", "_law_turn", "_law_change"]
theorem sc_law_is_near : FnScope N_law_is_near ["_law_case_here", "_law_lets_here", "_law_far_here", "_law_one", "_law_two", "_law_turn"] (defScope s_law_is_near) := ⟨rfl, rfl, rfl, by decide +kernel, rfl, by decide +kernel, by decide +kernel⟩
section
variable {P : Program} {w : World} {K : PySem.W.Frag} {mg : Str → Option Value} {base : Heap}
theorem ok_law_is_near (T : Txt K mg) : FnOk P w K mg base CX0 3 T.a_law_is_near T.fd_law_is_near ["_law_case_here", "_law_lets_here", "_law_far_here", "_law_one", "_law_two", "_law_turn"] (spM 6 fun ss Φ => endP (lift b_law_is_near (startS 1 ss)) Φ) :=
  fn_slots T.F_law_is_near sc_law_is_near rfl fun cdv A outer s H E hr => ⟨_, fs_cons (fs_for (fi_tupK (K := K) (fe_var (pv 1)) (fun z => pi_tup z)) (mg_name (pg_name (i := 6) sc_law_is_near.nd rfl (Or.inl rfl))) (fs_one (fs_if (ft_cmp (op_eqD hr.units) (sr_eq) (fe_ix ix_A sr_ix (fe_var (pv 6)) (fe_int) (fun _ _ => rfl)) (fe_ix ix_A sr_ix (fe_ix ix_A sr_ix (fe_ix ix_A sr_ix (fe_var (pv 0)) (fe_int) (fun _ _ => rfl)) (fe_int) (fun _ _ => rfl)) (fe_var (pv 3)) (fun _ _ => rfl)) (nomark _)) (fs_cons (fs_if (ft_w (fw_and (ft_cmp (op_eqD hr.units) (sr_eq) (fe_var (pv 5)) (fe_int) (nomark _)) (fw_and1 (ft_cmp (op_neD hr.units) (sr_ne) (fe_call (fa_cons (fe_var (pv 0)) (fa_cons (fe_var (pv 3)) (fa_cons (fe_var (pv 6)) (fa_nil)))) (fun z => pe_call (ok_law_answer T) (hr.mono (by decide)) (by rfl) T.m_law_answer T.F_law_answer.kp T.b_law_answer .nil pass0 z)) (fe_call (fa_cons (fe_var (pv 0)) (fa_cons (fe_var (pv 4)) (fa_cons (fe_var (pv 6)) (fa_nil)))) (fun z => pe_call (ok_law_answer T) (hr.mono (by decide)) (by rfl) T.m_law_answer T.F_law_answer.kp T.b_law_answer .nil pass0 z)) (nomark _))))) (fs_one (fs_ret (fe_bl))) (fs_nil)) (fs_one (fs_if (ft_w (fw_and (ft_cmp (op_gt) (sr_cmp) (fe_var (pv 5)) (fe_int) (nomark _)) (fw_and1 (ft_cmp (op_eqD hr.units) (sr_eq) (fe_getF (i := 2) (pv 2) (fe_tup (fa_cons (fe_call (fa_cons (fe_var (pv 0)) (fa_cons (fe_var (pv 3)) (fa_cons (fe_var (pv 6)) (fa_nil)))) (fun z => pe_call (ok_law_behind T) (hr.mono (by decide)) (by rfl) T.m_law_behind T.F_law_behind.kp T.b_law_behind .nil pass0 z)) (fa_cons (fe_call (fa_cons (fe_var (pv 0)) (fa_cons (fe_var (pv 4)) (fa_cons (fe_var (pv 6)) (fa_nil)))) (fun z => pe_call (ok_law_behind T) (hr.mono (by decide)) (by rfl) T.m_law_behind T.F_law_behind.kp T.b_law_behind .nil pass0 z)) (fa_nil)))) (fe_int) (fun x y z => pe_dgetF hr.units x y z ⟨rfl, rfl, rfl, rfl⟩)) (fe_op op_sub sr_sub (fe_var (pv 5)) (fe_int)) (nomark _))))) (fs_one (fs_ret (fe_bl))) (fs_nil)))) (fs_nil))) (fun x y z => ps_for PassesOwn.never rfl x y z)) (fs_one (fs_ret (fe_bl)))⟩
end
end DL
/-! printed by gen.py: law_far -/
namespace DL
open PySem L2
def farRow : FM := fOp ixD (fOp ixD (fVar 0) (fC (.int 0))) (fC (.int 1))
def farT : FAa := fRg2 (fC (.int 1)) (fOp addD (fVar 2) (fC (.int 1)))
def farI : FAa := fRg1 (fCall lenF (fCons (fVar 3) (fNil)))
def farC : FTt := fAnd (fTest (fOp (eqD) (fOp ixD (fVar 3) (fVar 7)) (fOp ixD (fVar 3) (fVar 8)))) (fAnd (fNotFar 4 (fTup (fCons (fVar 7) (fCons (fVar 8) (fNil))))) (fTest (fCallS 1 b_law_is_near (fslD (fVar 0) (fslD (fVar 1) (fslV 4 (fslD (fVar 7) (fslD (fVar 8) (fslD (fVar 5) (fslNil))))))))))
def farQ : FTt := fTest (fOp (eqD) (fVar 6) (fLst (fNil)))
def F_law_far : List PyData → Option Far := farF farRow farT farI farC farQ
abbrev N_law_far : List Str := ["_law_case_here", "_law_lets_here", "_law_most", "_law_row", "_law_far_here", "_law_turn", "_law_found", "_law_one", "_law_two", "_law_pair"]
theorem sc_law_far : FnScope N_law_far ["_law_case_here", "_law_lets_here", "_law_most"] (defScope s_law_far) := ⟨rfl, rfl, rfl, by decide +kernel, rfl, by decide +kernel, by decide +kernel⟩
section
variable {P : Program} {w : World} {K : PySem.W.Frag} {mg : Str → Option Value} {base : Heap}
theorem ok_law_far (T : Txt K mg) : FnOk P w K mg base CX0 4 T.a_law_far T.fd_law_far ["_law_case_here", "_law_lets_here", "_law_most"] (spFar F_law_far) := by
  refine T.F_law_far.ok sc_law_far (fun vs H Q E h => ?_) (fun cdv A outer s H vs Q E hr h => ?_)
  · obtain ⟨_, _, _, hl, _⟩ := h
    exact hl
  · obtain ⟨G, ds, f, hl, hx, hd, hF, q⟩ := h
    exact far_mk (frow := farRow) (fiT := farT) (fiI := farI) (cond := farC) (feq := farQ) (fun za zT zI zJ zc zp zL zq => pss_cons (ps_par (by rfl) sc_law_far.nd rfl rfl (by decide) rfl rfl (pa_cons za (pa_cons pe_dnewT pa_nil)) (by rfl)) (pss_cons (ps_for PassesOwn.never rfl zT (pg_name (i := 5) sc_law_far.nd rfl (Or.inl rfl)) (pss_cons (ps_set (i := 6) sc_law_far.nd rfl (Or.inl rfl) (pe_lst pa_nil)) (pss_cons (ps_for PassesOwn.never rfl zI (pg_name (i := 7) sc_law_far.nd rfl (Or.inl rfl)) (pss_one (ps_for PassesOwn.never rfl zJ (pg_name (i := 8) sc_law_far.nd rfl (Or.inl rfl)) (pss_one (ps_if zc (pss_one (ps_expr (pe_bm PySem.F.plainAttrs_list PySem.F.slot_list_append PySem.F.type_list_append mt_append (pv 6) (pa_cons zp pa_nil)))) pss_nil))))) (pss_cons (ps_for PassesOwn.never rfl zL (pg_name (i := 9) sc_law_far.nd rfl (Or.inl rfl)) (pss_one (ps_dput (hu1 hr) (pv 4) (pv 9) (pv 5) rfl))) (pss_one (ps_if zq (pss_one (ps_ret (pv 4))) pss_nil)))))) (pss_one (ps_ret (pv 4)))))
      (fe_ix ix_A sr_ix (fe_ix ix_A sr_ix (fe_var (pv 0)) (fe_int) (fun _ _ => rfl)) (fe_int) (fun _ _ => rfl)) (fi_rg2 (by rfl) T.n_range (fe_int) (fe_op op_addA sr_add (fe_var (pv 2)) (fe_int))) (fi_rg1 (by rfl) T.n_range (fe_cb sc_len (fa_cons (fe_var (pv 3)) (fa_nil)) (fun z => pe_callB call_len_seq (by rfl) T.n_len boot_lenX z))) (fi_rg1 (by rfl) T.n_range (fe_cb sc_len (fa_cons (fe_var (pv 3)) (fa_nil)) (fun z => pe_callB call_len_seq (by rfl) T.n_len boot_lenX z))) (ft_w (fw_and (ft_cmp (op_eqD hr.units) (sr_eq) (fe_ix ix_A sr_ix (fe_var (pv 3)) (fe_var (pv 7)) (fun _ _ => rfl)) (fe_ix ix_A sr_ix (fe_var (pv 3)) (fe_var (pv 8)) (fun _ _ => rfl)) (nomark _)) (fw_and (ft_notFar (i := 4) (pv 4) (fe_tup (fa_cons (fe_var (pv 7)) (fa_cons (fe_var (pv 8)) (fa_nil)))) (fun y z => pt_cmp (pc_dnotin (hu1 hr) y z) (by rfl))) (fw_and1 (ft_valc (fe_callS (fsl_d (fe_var (pv 0)) (fsl_d (fe_var (pv 1)) (fsl_v (i := 4) (pv 4) (fsl_d (fe_var (pv 7)) (fsl_d (fe_var (pv 8)) (fsl_d (fe_var (pv 5)) (fsl_nil))))))) (fun z => pe_call (ok_law_is_near T) (hr.mono (by decide)) (by rfl) T.m_law_is_near T.F_law_is_near.kp T.b_law_is_near .nil pass0 z)) (fun z => pt_val z)))))) (fe_tup (fa_cons (fe_var (pv 7)) (fa_cons (fe_var (pv 8)) (fa_nil)))) (fi_listK (K := K) (fe_var (pv 6)) (fun z => pi_list z)) (ft_cmp (op_eqD hr.units) (sr_eq) (fe_var (pv 6)) (fe_lst (fa_nil)) (nomark _)) rfl hF hx hd q
end
end DL
/-! printed by gen.py: law_holds -/
namespace DL
open PySem L2
def b_law_holds : FSt := fRet (fOp (eqD) (fLc (fFarI F_law_far (fCons (fVar 0) (fCons (fVar 1) (fCons (fVar 3) (fNil))))) (pgName 4) (fTest (fOp (eqD) (fOp ixD (fVar 2) (fOp ixD (fVar 4) (fC (.int 0)))) (fOp ixD (fVar 2) (fOp ixD (fVar 4) (fC (.int 1)))))) (fVar 4) [4]) (fLst (fNil)))
def F_law_holds : List PyData → Option PyData := runF 1 b_law_holds
abbrev N_law_holds : List Str := ["_law_case_here", "_law_lets_here", "_law_keys_here", "_law_most", "_law_pair"]
theorem sc_law_holds : FnScope N_law_holds ["_law_case_here", "_law_lets_here", "_law_keys_here", "_law_most"] (defScope s_law_holds) := ⟨rfl, rfl, rfl, by decide +kernel, rfl, by decide +kernel, by decide +kernel⟩
section
variable {P : Program} {w : World} {K : PySem.W.Frag} {mg : Str → Option Value} {base : Heap}
theorem ok_law_holds (T : Txt K mg) : FnOk P w K mg base CX0 5 T.a_law_holds T.fd_law_holds ["_law_case_here", "_law_lets_here", "_law_keys_here", "_law_most"] (spF 4 F_law_holds) :=
  fn_pure T.F_law_holds sc_law_holds rfl fun cdv A outer s H E hr => ⟨_, fs_one (fs_ret (fe_cmp (op_eqD hr.units) (sr_eq) (fe_lc (own := [("_law_pair", 4)]) rfl sc_law_holds.nd (fi_farI (fa_cons (fe_var (pv 0)) (fa_cons (fe_var (pv 1)) (fa_cons (fe_var (pv 3)) (fa_nil)))) (fun z => pe_call (ok_law_far T) (hr.mono (by decide)) (by rfl) T.m_law_far T.F_law_far.kp T.b_law_far .nil pass0 z)) (blkOk_by (own := [("_law_pair", 4)]) (N := N_law_holds) (sc := (defScope s_law_holds)) (by decide +kernel)) (fun _ _ _ _ _ => mg_name (pg_name (i := 4) sc_law_holds.nd rfl (Or.inl rfl))) (by decide) (fun _ _ _ _ _ => fts_one (ft_cmp (op_eqD hr.units) (sr_eq) (fe_ix ix_A sr_ix (fe_var (pv 2)) (fe_ix ix_A sr_ix (fe_var (pv 4)) (fe_int) (fun _ _ => rfl)) (fun _ _ => rfl)) (fe_ix ix_A sr_ix (fe_var (pv 2)) (fe_ix ix_A sr_ix (fe_var (pv 4)) (fe_int) (fun _ _ => rfl)) (fun _ _ => rfl)) (nomark _))) (fun _ _ _ _ _ => fe_var (pv 4))) (fe_lst (fa_nil)) (nomark _)))⟩
end
end DL
/-! printed by gen.py: law_greatest -/
namespace DL
open PySem L2
def b_law_greatest : FSt := fSeq (fAsg (fLst (fCons (fTup (fNil)) (fNil))) (pgName 3)) (fSeq (fFor (fItT (fVar 1)) (pgName 4) (fAsg (fOp addD (fVar 3) (fLc (fItL (fVar 3)) (pgName 7) (fYes) (fOp addD (fVar 7) (fTup (fCons (fVar 4) (fNil)))) [7])) (pgName 3))) (fSeq (fPar 5 6 (fCons (fLc (fItL (fVar 3)) (pgName 7) (fTest (fCall F_law_holds (fCons (fVar 0) (fCons (fVar 7) (fCons (fVar 2) (fCons (fC (.int 145)) (fNil))))))) (fVar 7) [7]) (fCons (fLst (fNil)) (fNil)))) (fSeq (fFor (fItL (fVar 5)) (pgName 7) (fSeq (fAsg (fLc (fItL (fVar 5)) (pgName 9) (fAnd (fTest (fOp (neD) (fVar 9) (fVar 7))) (fTest (fOp (eqD) (fLc (fItT (fVar 7)) (pgName 4) (fTest (fOp (notInD) (fVar 4) (fVar 9))) (fVar 4) [4]) (fLst (fNil))))) (fVar 9) [9]) (pgName 8)) (fAsg (fOp addD (fVar 6) (fIf (fTest (fOp (eqD) (fVar 8) (fLst (fNil)))) (fLst (fCons (fVar 7) (fNil))) (fLst (fNil)))) (pgName 6)))) (fRet (fCall sortF (fCons (fVar 6) (fNil)))))))
def F_law_greatest : List PyData → Option PyData := runF 7 b_law_greatest
abbrev N_law_greatest : List Str := ["_law_case_here", "_law_lets_here", "_law_keys_here", "_law_rows", "_law_change", "_law_found", "_law_great", "_law_row", "_law_wider", "_law_other"]
theorem sc_law_greatest : FnScope N_law_greatest ["_law_case_here", "_law_lets_here", "_law_keys_here"] (defScope s_law_greatest) := ⟨rfl, rfl, rfl, by decide +kernel, rfl, by decide +kernel, by decide +kernel⟩
section
variable {P : Program} {w : World} {K : PySem.W.Frag} {mg : Str → Option Value} {base : Heap}
theorem ok_law_greatest (T : Txt K mg) : FnOk P w K mg base CX0 6 T.a_law_greatest T.fd_law_greatest ["_law_case_here", "_law_lets_here", "_law_keys_here"] (spF 3 F_law_greatest) :=
  fn_pure T.F_law_greatest sc_law_greatest rfl fun cdv A outer s H E hr => ⟨_, fs_cons (fs_set (i := 3) (fe_lst (fa_cons (fe_tup (fa_nil)) (fa_nil))) (fun z => ps_set (i := 3) sc_law_greatest.nd rfl (Or.inl rfl) z)) (fs_cons (fs_for (fi_tupK (K := K) (fe_var (pv 1)) (fun z => pi_tup z)) (mg_name (pg_name (i := 4) sc_law_greatest.nd rfl (Or.inr rfl))) (fs_one (fs_set (i := 3) (fe_op op_addA sr_add (fe_var (pv 3)) (fe_lc (own := [("_law_row", 7)]) rfl sc_law_greatest.nd (fi_listK (K := K) (fe_var (pv 3)) (fun z => pi_list z)) (blkOk_by (own := [("_law_row", 7)]) (N := N_law_greatest) (sc := (defScope s_law_greatest)) (by decide +kernel)) (fun _ _ _ _ _ => mg_name (pg_name (i := 7) sc_law_greatest.nd rfl (Or.inl rfl))) (by decide) (fun _ _ _ _ _ => fts_nil) (fun _ _ _ _ _ => fe_op op_addA sr_add (fe_var (pv 7)) (fe_tup (fa_cons (fe_var (pv 4)) (fa_nil)))))) (fun z => ps_set (i := 3) sc_law_greatest.nd rfl (Or.inl rfl) z))) (fun x y z => ps_for PassesOwn.never rfl x y z)) (fs_cons (fs_par (i := 5) (j := 6) (fa_cons (fe_lc (own := [("_law_row", 7)]) rfl sc_law_greatest.nd (fi_listK (K := K) (fe_var (pv 3)) (fun z => pi_list z)) (blkOk_by (own := [("_law_row", 7)]) (N := N_law_greatest) (sc := (defScope s_law_greatest)) (by decide +kernel)) (fun _ _ _ _ _ => mg_name (pg_name (i := 7) sc_law_greatest.nd rfl (Or.inl rfl))) (by decide) (fun _ _ _ _ _ => fts_one (ft_valc (fe_call (fa_cons (fe_var (pv 0)) (fa_cons (fe_var (pv 7)) (fa_cons (fe_var (pv 2)) (fa_cons (fe_int) (fa_nil))))) (fun z => pe_call (ok_law_holds T) (hr.mono (by decide)) (by rfl) T.m_law_holds T.F_law_holds.kp T.b_law_holds .nil pass0 z)) (fun z => pt_val z))) (fun _ _ _ _ _ => fe_var (pv 7))) (fa_cons (fe_lst (fa_nil)) (fa_nil))) (fun z => ps_par (by rfl) sc_law_greatest.nd rfl rfl (by decide) rfl rfl z (by rfl))) (fs_cons (fs_for (fi_listK (K := K) (fe_var (pv 5)) (fun z => pi_list z)) (mg_name (pg_name (i := 7) sc_law_greatest.nd rfl (Or.inr rfl))) (fs_cons (fs_setLc (i := 8) (own := [("_law_other", 9)]) rfl sc_law_greatest.nd rfl rfl (sw_true rfl rfl rfl (by decide +kernel)) (fi_listK (K := K) (fe_var (pv 5)) (fun z => pi_list z)) (blkOk_by (own := [("_law_other", 9)]) (N := N_law_greatest) (sc := (defScope s_law_greatest)) (by decide +kernel)) (fun _ _ _ _ _ => mg_name (pg_name (i := 9) sc_law_greatest.nd rfl (Or.inr rfl))) (by decide) (fun _ _ _ _ _ => fts_one (ft_w (fw_and (ft_cmp (op_neD hr.units) (sr_ne) (fe_var (pv 9)) (fe_var (pv 7)) (nomark _)) (fw_and1 (ft_cmp (op_eqD hr.units) (sr_eq) (fe_lc (own := [("_law_change", 4)]) rfl sc_law_greatest.nd (fi_tupK (K := K) (fe_var (pv 7)) (fun z => pi_tup z)) (blkOk_by (own := [("_law_change", 4)]) (N := N_law_greatest) (sc := (relS _ (defScope s_law_greatest))) (by decide +kernel)) (fun _ _ _ _ _ => mg_name (pg_name (i := 4) sc_law_greatest.nd rfl (Or.inl rfl))) (by decide) (fun _ _ _ _ _ => fts_one (ft_cmp (op_notInA (hu65 hr)) (sr_notIn) (fe_var (pv 4)) (fe_var (pv 9)) (by rfl))) (fun _ _ _ _ _ => fe_var (pv 4))) (fe_lst (fa_nil)) (nomark _)))))) (fun _ _ _ _ _ => fe_var (pv 9))) (fs_one (fs_set (i := 6) (fe_op op_addA sr_add (fe_var (pv 6)) (fe_if (ft_cmp (op_eqD hr.units) (sr_eq) (fe_var (pv 8)) (fe_lst (fa_nil)) (nomark _)) (fe_lst (fa_cons (fe_var (pv 7)) (fa_nil))) (fe_lst (fa_nil)))) (fun z => ps_set (i := 6) sc_law_greatest.nd rfl (Or.inl rfl) z)))) (fun x y z => ps_for PassesOwn.never rfl x y z)) (fs_one (fs_ret (fe_cb sc_sort (fa_cons (fe_var (pv 6)) (fa_nil)) (fun z => pe_callB (cr_sortR hr) (by rfl) T.n_sorted boot_sortedX z)))))))⟩
end
end DL
/-! printed by gen.py: all_lots -/
namespace DL
open PySem L2
abbrev N_all_lots : List Str := ["many", "found", "at", "lot"]
theorem sc_all_lots : FnScope N_all_lots ["many"] (defScope s_all_lots) := ⟨rfl, rfl, rfl, by decide +kernel, rfl, by decide +kernel, by decide +kernel⟩
section
variable {P : Program} {w : World} {K : PySem.W.Frag} {mg : Str → Option Value} {base : Heap}
theorem ok_all_lots (T : Txt K mg) : FnOk P w K mg base CX0 1 T.a_all_lots T.fd_all_lots ["many"] (spF 1 F_all_lots) :=
  fn_pure T.F_all_lots sc_all_lots rfl fun cdv A outer s H E hr => ⟨_, fs_cons (fs_set (i := 1) (fe_lst (fa_cons (fe_tup (fa_nil)) (fa_nil))) (fun z => ps_set (i := 1) sc_all_lots.nd rfl (Or.inl rfl) z)) (fs_cons (fs_for (fi_rg1 (by rfl) T.n_range (fe_var (pv 0))) (mg_name (pg_name (i := 2) sc_all_lots.nd rfl (Or.inr rfl))) (fs_one (fs_set (i := 1) (fe_op op_addA sr_add (fe_var (pv 1)) (fe_lc (own := [("lot", 3)]) rfl sc_all_lots.nd (fi_listK (K := K) (fe_var (pv 1)) (fun z => pi_list z)) (blkOk_by (own := [("lot", 3)]) (N := N_all_lots) (sc := (defScope s_all_lots)) (by decide +kernel)) (fun _ _ _ _ _ => mg_name (pg_name (i := 3) sc_all_lots.nd rfl (Or.inl rfl))) (by decide) (fun _ _ _ _ _ => fts_nil) (fun _ _ _ _ _ => fe_op op_addA sr_add (fe_var (pv 3)) (fe_tup (fa_cons (fe_var (pv 2)) (fa_nil)))))) (fun z => ps_set (i := 1) sc_all_lots.nd rfl (Or.inl rfl) z))) (fun x y z => ps_for PassesOwn.never rfl x y z)) (fs_one (fs_ret (fe_var (pv 1)))))⟩
end
end DL
/-! printed by gen.py: lets_always -/
namespace DL
open PySem L2
abbrev N_lets_always : List Str := ["case", "keys", "lets", "rows", "found", "less", "lot", "at", "row", "other", "one"]
theorem sc_lets_always : FnScope N_lets_always ["case", "keys", "lets"] (defScope s_lets_always) := ⟨rfl, rfl, rfl, by decide +kernel, rfl, by decide +kernel, by decide +kernel⟩
section
variable {P : Program} {w : World} {K : PySem.W.Frag} {mg : Str → Option Value} {base : Heap}
theorem ok_lets_always (T : Txt K mg) : FnOk P w K mg base CX0 6 T.a_lets_always T.fd_lets_always ["case", "keys", "lets"] (spF 3 F_lets_always) :=
  fn_pure T.F_lets_always sc_lets_always rfl fun cdv A outer s H E hr => ⟨_, fs_cons (fs_exprX (fe_call (fa_cons (fe_var (pv 0)) (fa_nil)) (fun z => pe_call (ok_need_case T) (hr.mono (by decide)) (by rfl) T.m_need_case T.F_need_case.kp T.b_need_case .nil pass0 z)) (fun z => ps_expr z)) (fs_cons (fs_exprX (fe_call (fa_cons (fe_var (pv 0)) (fa_cons (fe_var (pv 1)) (fa_nil))) (fun z => pe_call (ok_need_keys T) (hr.mono (by decide)) (by rfl) T.m_need_keys T.F_need_keys.kp T.b_need_keys .nil pass0 z)) (fun z => ps_expr z)) (fs_cons (fs_exprX (fe_call (fa_cons (fe_var (pv 0)) (fa_cons (fe_var (pv 2)) (fa_nil))) (fun z => pe_call (ok_need_lets T) (hr.mono (by decide)) (by rfl) T.m_need_lets T.F_need_lets.kp T.b_need_lets .nil pass0 z)) (fun z => ps_expr z)) (fs_cons (fs_if (ft_cmp (op_gt) (sr_cmp) (fe_cb sc_len (fa_cons (fe_var (pv 2)) (fa_nil)) (fun z => pe_callB call_len_seq (by rfl) T.n_len boot_lenX z)) (fe_gint (pe_glob (by rfl) T.m_MOST ⟨_, rfl⟩)) (nomark _)) (fs_one (fs_never)) (fs_nil)) (fs_cons (fs_setLc (i := 3) (own := [("lot", 6)]) rfl sc_lets_always.nd rfl rfl (sw_true rfl rfl rfl (by decide +kernel)) (fi_listK (K := K) (fe_call (fa_cons (fe_cb sc_len (fa_cons (fe_var (pv 2)) (fa_nil)) (fun z => pe_callB call_len_seq (by rfl) T.n_len boot_lenX z)) (fa_nil)) (fun z => pe_call (ok_all_lots T) (hr.mono (by decide)) (by rfl) T.m_all_lots T.F_all_lots.kp T.b_all_lots .nil pass0 z)) (fun z => pi_list z)) (blkOk_by (own := [("lot", 6)]) (N := N_lets_always) (sc := (defScope s_lets_always)) (by decide +kernel)) (fun _ _ _ _ _ => mg_name (pg_name (i := 6) sc_lets_always.nd rfl (Or.inl rfl))) (by decide) (fun _ _ _ _ _ => fts_nil) (fun _ _ _ _ _ => fe_cb sc_tuple (fa_cons (fe_lc (own := [("at", 7)]) rfl sc_lets_always.nd (fi_tupK (K := K) (fe_var (pv 6)) (fun z => pi_tup z)) (blkOk_by (own := [("at", 7)]) (N := N_lets_always) (sc := (relS _ (defScope s_lets_always))) (by decide +kernel)) (fun _ _ _ _ _ => mg_name (pg_name (i := 7) sc_lets_always.nd rfl (Or.inl rfl))) (by decide) (fun _ _ _ _ _ => fts_nil) (fun _ _ _ _ _ => fe_ix ix_A sr_ix (fe_var (pv 2)) (fe_var (pv 7)) (fun _ _ => rfl))) (fa_nil)) (fun z => pe_callTy call_tuple_of (by rfl) T.n_tuple boot_tupleX z))) (fs_cons (fs_set (i := 4) (fe_lc (own := [("row", 8)]) rfl sc_lets_always.nd (fi_listK (K := K) (fe_var (pv 3)) (fun z => pi_list z)) (blkOk_by (own := [("row", 8)]) (N := N_lets_always) (sc := (defScope s_lets_always)) (by decide +kernel)) (fun _ _ _ _ _ => mg_name (pg_name (i := 8) sc_lets_always.nd rfl (Or.inl rfl))) (by decide) (fun _ _ _ _ _ => fts_one (ft_valc (fe_call (fa_cons (fe_var (pv 0)) (fa_cons (fe_var (pv 8)) (fa_cons (fe_var (pv 1)) (fa_cons (fe_gstr (pe_glob (by rfl) T.m_ALWAYS ⟨_, rfl⟩)) (fa_nil))))) (fun z => pe_call (ok_hold T) (hr.mono (by decide)) (by rfl) T.m_hold T.F_hold.kp T.b_hold .nil pass0 z)) (fun z => pt_val z))) (fun _ _ _ _ _ => fe_var (pv 8))) (fun z => ps_set (i := 4) sc_lets_always.nd rfl (Or.inr rfl) z)) (fs_cons (fs_set (i := 5) (fe_lc (own := [("row", 8)]) rfl sc_lets_always.nd (fi_listK (K := K) (fe_var (pv 4)) (fun z => pi_list z)) (blkOk_by (own := [("row", 8)]) (N := N_lets_always) (sc := (defScope s_lets_always)) (by decide +kernel)) (fun _ _ _ _ _ => mg_name (pg_name (i := 8) sc_lets_always.nd rfl (Or.inr rfl))) (by decide) (fun _ _ _ _ _ => fts_one (ft_valc (fe_cb sc_any (fa_cons (fe_lc (own := [("other", 9)]) rfl sc_lets_always.nd (fi_listK (K := K) (fe_var (pv 4)) (fun z => pi_list z)) (blkOk_by (own := [("other", 9)]) (N := N_lets_always) (sc := (relS _ (defScope s_lets_always))) (by decide +kernel)) (fun _ _ _ _ _ => mg_name (pg_name (i := 9) sc_lets_always.nd rfl (Or.inr rfl))) (by decide) (fun _ _ _ _ _ => fts_nil) (fun _ _ _ _ _ => fe_and (fe_cmp (op_neD hr.units) (sr_ne) (fe_var (pv 8)) (fe_var (pv 9)) (nomark _)) (fe_one (fe_cb sc_all (fa_cons (fe_lc (own := [("one", 10)]) rfl sc_lets_always.nd (fi_tupK (K := K) (fe_var (pv 8)) (fun z => pi_tup z)) (blkOk_by (own := [("one", 10)]) (N := N_lets_always) (sc := (relS _ (relS _ (defScope s_lets_always)))) (by decide +kernel)) (fun _ _ _ _ _ => mg_name (pg_name (i := 10) sc_lets_always.nd rfl (Or.inl rfl))) (by decide) (fun _ _ _ _ _ => fts_nil) (fun _ _ _ _ _ => fe_cmp (op_inA (hu65 hr)) (sr_in) (fe_var (pv 10)) (fe_var (pv 9)) (by rfl))) (fa_nil)) (fun z => pe_callB (cr_all rfl) (by rfl) T.n_all boot_allX z))))) (fa_nil)) (fun z => pe_callB (cr_any rfl) (by rfl) T.n_any boot_anyX z)) (fun z => pt_val z))) (fun _ _ _ _ _ => fe_var (pv 8))) (fun z => ps_set (i := 5) sc_lets_always.nd rfl (Or.inr rfl) z)) (fs_one (fs_ret (fe_cb sc_sort (fa_cons (fe_lc (own := [("row", 8)]) rfl sc_lets_always.nd (fi_listK (K := K) (fe_var (pv 4)) (fun z => pi_list z)) (blkOk_by (own := [("row", 8)]) (N := N_lets_always) (sc := (defScope s_lets_always)) (by decide +kernel)) (fun _ _ _ _ _ => mg_name (pg_name (i := 8) sc_lets_always.nd rfl (Or.inl rfl))) (by decide) (fun _ _ _ _ _ => fts_one (ft_cmp (op_notInA (hu65 hr)) (sr_notIn) (fe_var (pv 8)) (fe_var (pv 5)) (by rfl))) (fun _ _ _ _ _ => fe_var (pv 8))) (fa_nil)) (fun z => pe_callB (cr_sortR hr) (by rfl) T.n_sorted boot_sortedX z))))))))))⟩
end
end DL
/-! printed by gen.py: is_once -/
namespace DL
open PySem L2
abbrev N_is_once : List Str := ["case", "pairs", "change", "own", "pair", "one", "two"]
theorem sc_is_once : FnScope N_is_once ["case", "pairs", "change"] (defScope s_is_once) := ⟨rfl, rfl, rfl, by decide +kernel, rfl, by decide +kernel, by decide +kernel⟩
section
variable {P : Program} {w : World} {K : PySem.W.Frag} {mg : Str → Option Value} {base : Heap}
theorem ok_is_once (T : Txt K mg) : FnOk P w K mg base CX0 3 T.a_is_once T.fd_is_once ["case", "pairs", "change"] (spF 3 F_is_once) :=
  fn_pure T.F_is_once sc_is_once rfl fun cdv A outer s H E hr => ⟨_, fs_cons (fs_setLc (i := 3) (own := [("pair", 4)]) rfl sc_is_once.nd rfl rfl (sw_true rfl rfl rfl (by decide +kernel)) (fi_listK (K := K) (fe_var (pv 1)) (fun z => pi_list z)) (blkOk_by (own := [("pair", 4)]) (N := N_is_once) (sc := (defScope s_is_once)) (by decide +kernel)) (fun _ _ _ _ _ => mg_name (pg_name (i := 4) sc_is_once.nd rfl (Or.inl rfl))) (by decide) (fun _ _ _ _ _ => fts_one (ft_cmp (op_eqD hr.units) (sr_eq) (fe_ix ix_A sr_ix (fe_ix ix_A sr_ix (fe_ix ix_A sr_ix (fe_var (pv 0)) (fe_int) (fun _ _ => rfl)) (fe_int) (fun _ _ => rfl)) (fe_ix ix_A sr_ix (fe_var (pv 4)) (fe_int) (fun _ _ => rfl)) (fun _ _ => rfl)) (fe_ix ix_A sr_ix (fe_var (pv 2)) (fe_int) (fun _ _ => rfl)) (nomark _))) (fun _ _ _ _ _ => fe_var (pv 4))) (fs_one (fs_ret (fe_cb sc_all (fa_cons (fe_lc (own := [("one", 5), ("two", 6)]) rfl sc_is_once.nd (fi_listK (K := K) (fe_var (pv 3)) (fun z => pi_list z)) (blkOk_by (own := [("one", 5), ("two", 6)]) (N := N_is_once) (sc := (defScope s_is_once)) (by decide +kernel)) (fun _ _ _ _ _ => mg_tupX (K := K) (mgs_consX (mg_name (pg_name (i := 5) sc_is_once.nd rfl (Or.inl rfl))) (mgs_consX (mg_name (pg_name (i := 6) sc_is_once.nd rfl (Or.inl rfl))) (mgs_nil) (fun y z => pgs_cons y z)) (fun y z => pgs_cons y z)) (nlen_cons (nlen_cons (nlen_nil))) (fun y => pg_tup rfl y)) (by decide) (fun _ _ _ _ _ => fts_nil) (fun _ _ _ _ _ => fe_cmp (op_eqD hr.units) (sr_eq) (fe_call (fa_cons (fe_var (pv 0)) (fa_cons (fe_var (pv 5)) (fa_cons (fe_var (pv 2)) (fa_nil)))) (fun z => pe_call (ok_answer_of T) (hr.mono (by decide)) (by rfl) T.m_answer_of T.F_answer_of.kp T.b_answer_of .nil pass0 z)) (fe_call (fa_cons (fe_var (pv 0)) (fa_cons (fe_var (pv 6)) (fa_cons (fe_var (pv 2)) (fa_nil)))) (fun z => pe_call (ok_answer_of T) (hr.mono (by decide)) (by rfl) T.m_answer_of T.F_answer_of.kp T.b_answer_of .nil pass0 z)) (nomark _))) (fa_nil)) (fun z => pe_callB (cr_all rfl) (by rfl) T.n_all boot_allX z))))⟩
end
end DL
/-! printed by gen.py: lets_once -/
namespace DL
open PySem L2
abbrev N_lets_once : List Str := ["case", "keys", "pairs", "worths", "one", "two"]
theorem sc_lets_once : FnScope N_lets_once ["case", "keys"] (defScope s_lets_once) := ⟨rfl, rfl, rfl, by decide +kernel, rfl, by decide +kernel, by decide +kernel⟩
section
variable {P : Program} {w : World} {K : PySem.W.Frag} {mg : Str → Option Value} {base : Heap}
theorem ok_lets_once (T : Txt K mg) : FnOk P w K mg base CX0 5 T.a_lets_once T.fd_lets_once ["case", "keys"] (spF 2 F_lets_once) :=
  fn_pure T.F_lets_once sc_lets_once rfl fun cdv A outer s H E hr => ⟨_, fs_cons (fs_exprX (fe_call (fa_cons (fe_var (pv 0)) (fa_nil)) (fun z => pe_call (ok_need_case T) (hr.mono (by decide)) (by rfl) T.m_need_case T.F_need_case.kp T.b_need_case .nil pass0 z)) (fun z => ps_expr z)) (fs_cons (fs_exprX (fe_call (fa_cons (fe_var (pv 0)) (fa_cons (fe_var (pv 1)) (fa_nil))) (fun z => pe_call (ok_need_keys T) (hr.mono (by decide)) (by rfl) T.m_need_keys T.F_need_keys.kp T.b_need_keys .nil pass0 z)) (fun z => ps_expr z)) (fs_cons (fs_asg (fe_tup (fa_cons (fe_call (fa_cons (fe_var (pv 0)) (fa_cons (fe_var (pv 1)) (fa_nil))) (fun z => pe_call (ok_alike_pairs T) (hr.mono (by decide)) (by rfl) T.m_alike_pairs T.F_alike_pairs.kp T.b_alike_pairs .nil pass0 z)) (fa_cons (fe_listRg rfl (by rfl) T.n_list (by rfl) T.n_range (fe_ix ix_A sr_ix (fe_ix ix_A sr_ix (fe_var (pv 0)) (fe_int) (fun _ _ => rfl)) (fe_int) (fun _ _ => rfl))) (fa_nil)))) (mg_tupX (K := K) (mgs_consX (mg_name (pg_name (i := 2) sc_lets_once.nd rfl (Or.inr rfl))) (mgs_consX (mg_name (pg_name (i := 3) sc_lets_once.nd rfl (Or.inr rfl))) (mgs_nil) (fun y z => pgs_cons y z)) (fun y z => pgs_cons y z)) (nlen_cons (nlen_cons (nlen_nil))) (fun y => pg_tup rfl y)) (fun y z => ps_asg y z)) (fs_one (fs_ret (fe_cb sc_tuple (fa_cons (fe_lc2 (own := [("one", 4), ("two", 5)]) (vs1 := [5]) rfl sc_lets_once.nd (fi_listK (K := K) (fe_var (pv 3)) (fun z => pi_list z)) (blkOk_by (own := [("one", 4), ("two", 5)]) (N := N_lets_once) (sc := (defScope s_lets_once)) (by decide +kernel)) (by decide) (fun _ _ _ _ _ => mg_name (pg_name (i := 4) sc_lets_once.nd rfl (Or.inl rfl))) (by decide) (fun _ _ _ _ _ => fts_nil) (fun _ _ _ _ _ => fi_listK (K := K) (fe_var (pv 3)) (fun z => pi_list z)) (fun _ _ _ _ _ => mg_name (pg_name (i := 5) sc_lets_once.nd rfl (Or.inl rfl))) (by decide) (fun _ _ _ _ _ => fts_one (ft_valc (fe_call (fa_cons (fe_var (pv 0)) (fa_cons (fe_var (pv 2)) (fa_cons (fe_tup (fa_cons (fe_var (pv 4)) (fa_cons (fe_var (pv 5)) (fa_nil)))) (fa_nil)))) (fun z => pe_call (ok_is_once T) (hr.mono (by decide)) (by rfl) T.m_is_once T.F_is_once.kp T.b_is_once .nil pass0 z)) (fun z => pt_val z))) (fun _ _ _ _ _ => fe_tup (fa_cons (fe_var (pv 4)) (fa_cons (fe_var (pv 5)) (fa_nil))))) (fa_nil)) (fun z => pe_callTy call_tuple_of (by rfl) T.n_tuple boot_tupleX z))))))⟩
end
end DL
/-! printed by gen.py: law_right -/
namespace DL
open PySem L2
def m_law_right : PSt := pSeq (lift (fAsg (fCall F_law_changes (fCons (fOp ixD (fOp ixD (fVar 1) (fC (.int 0))) (fC (.int 0))) (fNil))) (pgName 3))) (pSeq (lift (fAsg (fCall tupleF (fCons (fLc (fItL (fVar 3)) (pgName 8) (fTest (fCall F_law_holds (fCons (fVar 1) (fCons (fTup (fCons (fVar 8) (fNil))) (fCons (fVar 2) (fCons (fC (.int 1)) (fNil))))))) (fVar 8) [8]) (fNil))) (pgName 4))) (pSeq (lift (fIfS (fOr (fTest (fOp (neD) (fCall F_lets_once (fCons (fVar 1) (fCons (fVar 2) (fNil)))) (fVar 4))) (fTest (fOp (isNotB) (fCall F_keys_hold (fCons (fVar 1) (fCons (fVar 4) (fCons (fVar 2) (fCons (fC (.str "once")) (fNil)))))) (fC (.bool true))))) (fRet (fC (.bool false))) (fNext))) (pSeq (pAsg (pLc (lift (fItL (fVar 3))) (pgName 8) (pTest (pOp (eqD) (pCallS rollM (pslV 0 (pslD (pCallS M_law_some (pslV 0 (pslD (lift (fLst (fCons (fC (.int 1)) (fCons (fC (.int 2)) (fCons (fC (.int 3)) (fNil)))))) (pslNil)))) (pslNil)))) (lift (fC (.int 0))))) (lift (fVar 8)) [8]) (pgName 5)) (pSeq (pAsg (pCall tupleF (pCons (pTo (lift (fVar 5)) (pCallS M_law_some (pslV 0 (pslD (lift (fLst (fCons (fC (.int 3)) (fCons (fC (.int 4)) (fCons (fC (.int 5)) (fNil)))))) (pslNil))))) (pNil))) (pgName 6)) (lift (fSeq (fAsg (fCall F_lets_always (fCons (fVar 1) (fCons (fVar 2) (fCons (fVar 6) (fNil))))) (pgName 7)) (fSeq (fIfS (fTest (fOp (neD) (fVar 7) (fCall F_law_greatest (fCons (fVar 1) (fCons (fVar 6) (fCons (fVar 2) (fNil))))))) (fRet (fC (.bool false))) (fNext)) (fRet (fOp (eqD) (fLc (fItL (fVar 7)) (pgName 9) (fTest (fOp (isNotB) (fCall F_keys_hold (fCons (fVar 1) (fCons (fVar 9) (fCons (fVar 2) (fCons (fC (.str "always")) (fNil)))))) (fC (.bool true)))) (fVar 9) [9]) (fLst (fNil)))))))))))
def M_law_right : List Slot → (PyData → Prop) → Prop := fun ss Φ => endP (m_law_right (startS 7 ss)) Φ
abbrev N_law_right : List Str := ["_law_cup_here", "_law_case_here", "_law_keys_here", "_law_every", "_law_once", "_law_some_here", "_law_lets_here", "_law_told", "_law_change", "_law_row"]
theorem sc_law_right : FnScope N_law_right ["_law_cup_here", "_law_case_here", "_law_keys_here"] (defScope s_law_right) := ⟨rfl, rfl, rfl, by decide +kernel, rfl, by decide +kernel, by decide +kernel⟩
section
variable {P : Program} {w : World} {K : PySem.W.Frag} {mg : Str → Option Value} {base : Heap}
theorem ok_law_right (T : Txt K mg) : FnOk P w K mg base CX0 7 T.a_law_right T.fd_law_right ["_law_cup_here", "_law_case_here", "_law_keys_here"] (spM 3 M_law_right) :=
  fn_slots T.F_law_right sc_law_right rfl fun cdv A outer s H E hr => ⟨_, ms_cons (fs_set (i := 3) (fe_call (fa_cons (fe_ix ix_A sr_ix (fe_ix ix_A sr_ix (fe_var (pv 1)) (fe_int) (fun _ _ => rfl)) (fe_int) (fun _ _ => rfl)) (fa_nil)) (fun z => pe_call (ok_law_changes T) (hr.mono (by decide)) (by rfl) T.m_law_changes T.F_law_changes.kp T.b_law_changes .nil pass0 z)) (fun z => ps_set (i := 3) sc_law_right.nd rfl (Or.inl rfl) z)) (ms_cons (fs_set (i := 4) (fe_cb sc_tuple (fa_cons (fe_lc (own := [("_law_change", 8)]) rfl sc_law_right.nd (fi_listK (K := K) (fe_var (pv 3)) (fun z => pi_list z)) (blkOk_by (own := [("_law_change", 8)]) (N := N_law_right) (sc := (defScope s_law_right)) (by decide +kernel)) (fun _ _ _ _ _ => mg_name (pg_name (i := 8) sc_law_right.nd rfl (Or.inl rfl))) (by decide) (fun _ _ _ _ _ => fts_one (ft_valc (fe_call (fa_cons (fe_var (pv 1)) (fa_cons (fe_tup (fa_cons (fe_var (pv 8)) (fa_nil))) (fa_cons (fe_var (pv 2)) (fa_cons (fe_int) (fa_nil))))) (fun z => pe_call (ok_law_holds T) (hr.mono (by decide)) (by rfl) T.m_law_holds T.F_law_holds.kp T.b_law_holds .nil pass0 z)) (fun z => pt_val z))) (fun _ _ _ _ _ => fe_var (pv 8))) (fa_nil)) (fun z => pe_callTy call_tuple_of (by rfl) T.n_tuple boot_tupleX z)) (fun z => ps_set (i := 4) sc_law_right.nd rfl (Or.inl rfl) z)) (ms_cons (fs_if (ft_w (fw_or (ft_cmp (op_neD hr.units) (sr_ne) (fe_call (fa_cons (fe_var (pv 1)) (fa_cons (fe_var (pv 2)) (fa_nil))) (fun z => pe_call (ok_lets_once T) (hr.mono (by decide)) (by rfl) T.m_lets_once T.F_lets_once.kp T.b_lets_once .nil pass0 z)) (fe_var (pv 4)) (nomark _)) (fw_or1 (ft_cmp (op_notBl) (sr_isNotB) (fe_call (fa_cons (fe_var (pv 1)) (fa_cons (fe_var (pv 4)) (fa_cons (fe_var (pv 2)) (fa_cons (fe_str) (fa_nil))))) (fun z => pe_call (ok_keys_hold T) (hr.mono (by decide)) (by rfl) T.m_keys_hold T.F_keys_hold.kp T.b_keys_hold .nil pass0 z)) (fe_bl) (nomark _))))) (fs_one (fs_ret (fe_bl))) (fs_nil)) (ms_cons (ms_setLc (i := 5) (own := [("_law_change", 8)]) rfl sc_law_right.nd rfl rfl (sw_true rfl rfl rfl (by decide +kernel)) (fi_listK (K := K) (fe_var (pv 3)) (fun z => pi_list z)) (blkOk_by (own := [("_law_change", 8)]) (N := N_law_right) (sc := (defScope s_law_right)) (by decide +kernel)) (fun _ _ _ _ _ => mg_name (pg_name (i := 8) sc_law_right.nd rfl (Or.inl rfl))) (by decide) (fun _ _ _ _ _ => mts_one (mt_cmp (op_eqD hr.units) (sr_eq) (me_callS (msl_v (i := 0) (pv 0) (msl_d (me_callS (msl_v (i := 0) (pv 0) (msl_d (fe_lst (fa_cons (fe_int) (fa_cons (fe_int) (fa_cons (fe_int) (fa_nil))))) (msl_nil))) (fun z => pe_call (ok_law_some T) (hr.mono (by decide)) (by rfl) T.m_law_some T.F_law_some.kp T.b_law_some .nil pass0 z)) (msl_nil))) (fun z => pe_call (ok_law_roll T) (hr.mono (by decide)) (by rfl) T.m_law_roll T.F_law_roll.kp T.b_law_roll .nil pass0 z)) (fe_int) (nomark _))) (fun _ _ _ _ _ => fe_var (pv 8))) (ms_cons (ms_set (i := 6) (me_cb sc_tuple (ma_cons (me_to (fe_var (pv 5)) (me_callS (msl_v (i := 0) (pv 0) (msl_d (fe_lst (fa_cons (fe_int) (fa_cons (fe_int) (fa_cons (fe_int) (fa_nil))))) (msl_nil))) (fun z => pe_call (ok_law_some T) (hr.mono (by decide)) (by rfl) T.m_law_some T.F_law_some.kp T.b_law_some .nil pass0 z))) (ma_nil)) (fun z => pe_callTy call_tuple_of (by rfl) T.n_tuple boot_tupleX z)) (fun z => ps_set (i := 6) sc_law_right.nd rfl (Or.inl rfl) z)) (fs_cons (fs_set (i := 7) (fe_call (fa_cons (fe_var (pv 1)) (fa_cons (fe_var (pv 2)) (fa_cons (fe_var (pv 6)) (fa_nil)))) (fun z => pe_call (ok_lets_always T) (hr.mono (by decide)) (by rfl) T.m_lets_always T.F_lets_always.kp T.b_lets_always .nil pass0 z)) (fun z => ps_set (i := 7) sc_law_right.nd rfl (Or.inl rfl) z)) (fs_cons (fs_if (ft_cmp (op_neD hr.units) (sr_ne) (fe_var (pv 7)) (fe_call (fa_cons (fe_var (pv 1)) (fa_cons (fe_var (pv 6)) (fa_cons (fe_var (pv 2)) (fa_nil)))) (fun z => pe_call (ok_law_greatest T) (hr.mono (by decide)) (by rfl) T.m_law_greatest T.F_law_greatest.kp T.b_law_greatest .nil pass0 z)) (nomark _)) (fs_one (fs_ret (fe_bl))) (fs_nil)) (fs_one (fs_ret (fe_cmp (op_eqD hr.units) (sr_eq) (fe_lc (own := [("_law_row", 9)]) rfl sc_law_right.nd (fi_listK (K := K) (fe_var (pv 7)) (fun z => pi_list z)) (blkOk_by (own := [("_law_row", 9)]) (N := N_law_right) (sc := (defScope s_law_right)) (by decide +kernel)) (fun _ _ _ _ _ => mg_name (pg_name (i := 9) sc_law_right.nd rfl (Or.inl rfl))) (by decide) (fun _ _ _ _ _ => fts_one (ft_cmp (op_notBl) (sr_isNotB) (fe_call (fa_cons (fe_var (pv 1)) (fa_cons (fe_var (pv 9)) (fa_cons (fe_var (pv 2)) (fa_cons (fe_str) (fa_nil))))) (fun z => pe_call (ok_keys_hold T) (hr.mono (by decide)) (by rfl) T.m_keys_hold T.F_keys_hold.kp T.b_keys_hold .nil pass0 z)) (fe_bl) (nomark _))) (fun _ _ _ _ _ => fe_var (pv 9))) (fe_lst (fa_nil)) (nomark _))))))))))⟩
end
end DL
/-! printed by gen.py: law_w -/
namespace DL
open PySem L2
abbrev N_law_w : List Str := ["_law_case_here"]
theorem sc_law_w : FnScope N_law_w [] (defScope s_law_w) := ⟨rfl, rfl, rfl, by decide +kernel, rfl, by decide +kernel, by decide +kernel⟩
section
variable {P : Program} {w : World} {K : PySem.W.Frag} {mg : Str → Option Value} {base : Heap}
theorem ok_law_w (T : Txt K mg) : FnOk P w K mg base CX0 1 T.a_law_w T.fd_law_w [] (spF 0 F_law_w) :=
  fn_pure T.F_law_w sc_law_w rfl fun cdv A outer s H E hr => ⟨_, fs_cons (fs_set (i := 0) (fe_tup (fa_cons (fe_tup (fa_cons (fe_int) (fa_cons (fe_tup (fa_cons (fe_int) (fa_cons (fe_int) (fa_cons (fe_int) (fa_cons (fe_int) (fa_nil)))))) (fa_nil)))) (fa_cons (fe_tup (fa_cons (fe_tup (fa_cons (fe_int) (fa_cons (fe_int) (fa_nil)))) (fa_cons (fe_tup (fa_cons (fe_int) (fa_cons (fe_int) (fa_nil)))) (fa_cons (fe_tup (fa_cons (fe_int) (fa_cons (fe_int) (fa_nil)))) (fa_cons (fe_tup (fa_cons (fe_int) (fa_cons (fe_non) (fa_nil)))) (fa_nil)))))) (fa_cons (fe_tup (fa_cons (fe_int) (fa_cons (fe_int) (fa_cons (fe_int) (fa_cons (fe_int) (fa_nil)))))) (fa_nil))))) (fun z => ps_set (i := 0) sc_law_w.nd rfl (Or.inl rfl) z)) (fs_one (fs_ret (fe_tup (fa_cons (fe_var (pv 0)) (fa_cons (fe_tup (fa_cons (fe_tup (fa_cons (fe_int) (fa_cons (fe_int) (fa_nil)))) (fa_cons (fe_tup (fa_cons (fe_int) (fa_cons (fe_int) (fa_nil)))) (fa_cons (fe_tup (fa_cons (fe_int) (fa_cons (fe_int) (fa_nil)))) (fa_nil))))) (fa_nil))))))⟩
end
end DL
/-! printed by gen.py: law -/
namespace DL
open PySem L2
def f_law_tail : FSt := (fSeq (fAsg (fCall F_law_w (fNil)) (pgTup (pgCons (pgName 4) (pgCons (pgName 5) (pgNil))))) (fSeq (fIfS (fOr (fTest (fOp (neD) (fCall F_lets_once (fCons (fVar 4) (fCons (fTup (fCons (fC (.int 0)) (fCons (fC (.int 0)) (fCons (fC (.int 0)) (fCons (fC (.int 0)) (fNil)))))) (fNil)))) (fTup (fCons (fTup (fCons (fC (.int 0)) (fCons (fC (.int 0)) (fNil)))) (fCons (fTup (fCons (fC (.int 0)) (fCons (fC (.int 1)) (fNil)))) (fCons (fTup (fCons (fC (.int 1)) (fCons (fC (.int 0)) (fNil)))) (fNil))))))) (fTest (fOp (neD) (fCall F_lets_always (fCons (fVar 4) (fCons (fTup (fCons (fC (.int 0)) (fCons (fC (.int 0)) (fCons (fC (.int 0)) (fCons (fC (.int 0)) (fNil)))))) (fCons (fVar 5) (fNil))))) (fLst (fCons (fTup (fCons (fTup (fCons (fC (.int 0)) (fCons (fC (.int 1)) (fNil)))) (fCons (fTup (fCons (fC (.int 1)) (fCons (fC (.int 0)) (fNil)))) (fNil)))) (fNil)))))) (fRet (fC (.bool false))) (fNext)) (fSeq (fIfS (fOr (fTest (fOp (neD) (fCall F_lets_always (fCons (fVar 4) (fCons (fTup (fCons (fC (.int 0)) (fCons (fC (.int 0)) (fCons (fC (.int 0)) (fCons (fC (.int 1)) (fNil)))))) (fCons (fVar 5) (fNil))))) (fLst (fCons (fTup (fCons (fTup (fCons (fC (.int 0)) (fCons (fC (.int 1)) (fNil)))) (fCons (fTup (fCons (fC (.int 1)) (fCons (fC (.int 0)) (fNil)))) (fNil)))) (fCons (fTup (fCons (fTup (fCons (fC (.int 1)) (fCons (fC (.int 0)) (fNil)))) (fCons (fTup (fCons (fC (.int 1)) (fCons (fC (.int 1)) (fNil)))) (fNil)))) (fNil)))))) (fTest (fOp (neD) (fCall F_lets_always (fCons (fVar 4) (fCons (fTup (fCons (fC (.int 0)) (fCons (fC (.int 1)) (fCons (fC (.int 0)) (fCons (fC (.int 1)) (fNil)))))) (fCons (fVar 5) (fNil))))) (fLst (fCons (fVar 5) (fNil)))))) (fRet (fC (.bool false))) (fNext)) (fSeq (fAsg (fTup (fCons (fTup (fCons (fC (.int 0)) (fCons (fC (.int 0)) (fNil)))) (fCons (fTup (fCons (fC (.int 0)) (fCons (fC (.int 1)) (fNil)))) (fCons (fTup (fCons (fC (.int 1)) (fCons (fC (.int 0)) (fNil)))) (fCons (fTup (fCons (fC (.int 1)) (fCons (fC (.int 1)) (fNil)))) (fCons (fTup (fCons (fC (.int 2)) (fCons (fC (.int 0)) (fNil)))) (fCons (fTup (fCons (fC (.int 2)) (fCons (fC (.int 2)) (fNil)))) (fNil)))))))) (pgName 6)) (fSeq (fAsg (fTup (fCons (fTup (fCons (fC (.int 3)) (fCons (fTup (fCons (fC (.int 0)) (fCons (fC (.int 0)) (fCons (fC (.int 1)) (fCons (fC (.int 1)) (fCons (fC (.int 2)) (fNil))))))) (fNil)))) (fCons (fTup (fCons (fTup (fCons (fC (.int 0)) (fCons (fC (.int 2)) (fCons (fC (.int 4)) (fNil))))) (fCons (fTup (fCons (fC (.int 1)) (fCons (fC (.int 3)) (fCons (fC (.int 4)) (fNil))))) (fCons (fTup (fCons (fC (.int 0)) (fCons (fC (.int 2)) (fCons (fC (.int 4)) (fNil))))) (fCons (fTup (fCons (fC (.int 0)) (fCons (fC (.int 3)) (fCons (fC (.int 4)) (fNil))))) (fCons (fTup (fCons (fC (.int 0)) (fCons (fC (.int 2)) (fCons (fC (.int 4)) (fNil))))) (fNil))))))) (fCons (fTup (fCons (fC (.int 0)) (fCons (fC (.int 0)) (fCons (fC (.int 1)) (fCons (fC (.int 2)) (fCons (fC (.int 0)) (fNil))))))) (fNil))))) (pgName 7)) (fSeq (fIfS (fTest (fOp (neD) (fCall F_lets_always (fCons (fVar 7) (fCons (fTup (fCons (fC (.int 0)) (fCons (fC (.int 0)) (fCons (fC (.int 0)) (fCons (fC (.int 1)) (fCons (fC (.int 0)) (fNil))))))) (fCons (fVar 6) (fNil))))) (fLst (fCons (fTup (fCons (fTup (fCons (fC (.int 0)) (fCons (fC (.int 0)) (fNil)))) (fCons (fTup (fCons (fC (.int 1)) (fCons (fC (.int 0)) (fNil)))) (fCons (fTup (fCons (fC (.int 1)) (fCons (fC (.int 1)) (fNil)))) (fCons (fTup (fCons (fC (.int 2)) (fCons (fC (.int 0)) (fNil)))) (fCons (fTup (fCons (fC (.int 2)) (fCons (fC (.int 2)) (fNil)))) (fNil))))))) (fNil))))) (fRet (fC (.bool false))) (fNext)) (fSeq (fIfS (fOr (fTest (fOp (neD) (fCall F_lets_once (fCons (fTup (fCons (fTup (fCons (fC (.int 2)) (fCons (fTup (fNil)) (fNil)))) (fCons (fTup (fNil)) (fCons (fTup (fNil)) (fNil))))) (fCons (fTup (fNil)) (fNil)))) (fTup (fCons (fTup (fCons (fC (.int 0)) (fCons (fC (.int 0)) (fNil)))) (fCons (fTup (fCons (fC (.int 0)) (fCons (fC (.int 1)) (fNil)))) (fCons (fTup (fCons (fC (.int 1)) (fCons (fC (.int 0)) (fNil)))) (fCons (fTup (fCons (fC (.int 1)) (fCons (fC (.int 1)) (fNil)))) (fNil)))))))) (fTest (fOp (neD) (fCall F_lets_once (fCons (fTup (fCons (fTup (fCons (fC (.int 0)) (fCons (fTup (fNil)) (fNil)))) (fCons (fTup (fNil)) (fCons (fTup (fNil)) (fNil))))) (fCons (fTup (fNil)) (fNil)))) (fTup (fNil))))) (fRet (fC (.bool false))) (fNext)) (fRet (fAndV (fOp (eqD) (fCall F_lets_always (fCons (fTup (fCons (fTup (fCons (fC (.int 2)) (fCons (fTup (fNil)) (fNil)))) (fCons (fTup (fNil)) (fCons (fTup (fNil)) (fNil))))) (fCons (fTup (fNil)) (fCons (fTup (fCons (fTup (fCons (fC (.int 0)) (fCons (fC (.int 1)) (fNil)))) (fNil))) (fNil))))) (fLst (fCons (fTup (fCons (fTup (fCons (fC (.int 0)) (fCons (fC (.int 1)) (fNil)))) (fNil))) (fNil)))) (fOp (eqD) (fCall F_lets_always (fCons (fCall F_law_line (fCons (fC (.int 12)) (fNil))) (fCons (fOp mulA (fTup (fCons (fC (.int 0)) (fNil))) (fC (.int 12))) (fCons (fTup (fCons (fTup (fCons (fC (.int 0)) (fCons (fC (.int 0)) (fNil)))) (fNil))) (fNil))))) (fLst (fCons (fTup (fNil)) (fNil)))))))))))))
def m_law : PSt := pSeq (pFor (lift (fRg1 (fC (.int 3)))) (pgName 2) (pSeq (pAsg (pCallS M_law_case (pslV 1 (pslNil))) (pgName 3)) (pIfS (pOr (pNot (pTest (pCallS M_law_right (pslV 1 (pslD (lift (fVar 3)) (pslD (pCallS M_law_keys (pslV 1 (pslD (lift (fVar 3)) (pslNil)))) (pslNil))))))) (pNot (pTest (pCallS M_law_right (pslV 1 (pslD (lift (fVar 3)) (pslD (lift (fOp mulA (fTup (fCons (fC (.int 0)) (fNil))) (fCall lenF (fCons (fOp ixD (fOp ixD (fVar 3) (fC (.int 0))) (fC (.int 1))) (fNil))))) (pslNil)))))))) (lift (fRet (fC (.bool false)))) (lift (fNext))))) (lift f_law_tail)
abbrev N_law : List Str := ["_law_script", "_law_cup_here", "_law_turn", "_law_case_here", "_law_w_here", "_law_m", "_law_six", "_law_wide"]
theorem sc_law : FnScope N_law ["_law_script"] (defScope s_law) := ⟨rfl, rfl, rfl, by decide +kernel, rfl, by decide +kernel, by decide +kernel⟩
section
variable {P : Program} {w : World} {K : PySem.W.Frag} {mg : Str → Option Value} {base : Heap}
/-- the law says True, whatever is drawn -/
def LawSays : Prop := endP (m_law [none, some .cup, none, none, none, none, none, none]) fun x => x = .bool true
def spLaw (K : PySem.W.Frag) : Sp := fun vs H Q _ => ∃ (a : Addr) (ns : List Int), vs = [.ref a] ∧ ns.length ≤ 100000 ∧ SqL K H a (ns.map V.int) ∧ ∀ H', Q (.bl true) H'
theorem law_mk {X : Cx} {K : PySem.W.Frag} {body rest : List Stmt} {t : TS} {E : XK} (says : LawSays) (hps : PSs X rest t → PSs X body (tSeq (tAsg (tCall (spCup K) [] E (tCons (tVar 0) tNil)) (gName 1)) t)) (hm : MSs X rest t m_law)
    {N : List Str} (hn : N.length = 8) {vs : List V} {H : Hp} {Q : VK} {E' : XK} (h : spLaw K vs H Q E') : ∃ t, PSs X body t ∧ t { nx := fun _ H' => Q .non H', rt := Q } (L2.start N vs) H := by
  refine ⟨_, hps hm.ps, ?_⟩
  obtain ⟨a, ns, rfl, hl, hs, q⟩ := h
  have e0 : L2.start N [V.ref a] = [some (.ref a), none, none, none, none, none, none, none] := by
    unfold L2.start
    rw [hn]
    rfl
  rw [e0]
  refine ⟨_, rfl, a, ns, rfl, hl, hs, fun c H' hx hc hcup => ?_⟩
  refine hm.snd (some c) _ _ says _ (fun _ => none) H' ⟨fun _ _ e => (nomatch e), fun c' e => ?_⟩ ⟨rfl, fun i s e => ?_⟩ _ ⟨fun ρ σ G1 H1 h w' _ => (nomatch h), fun y v G1 H1 h w' d' => ?_, fun ρ σ G1 H1 h _ _ => h.elim, fun ρ σ G1 H1 h _ _ => h.elim⟩
  · cases e
    exact ⟨rfl, hcup⟩
  · match i, e with
    | 1, e =>
      cases e
      exact ⟨.ref c, rfl, c, rfl, rfl⟩
    | 0, e => cases e
    | 2, e => cases e
    | 3, e => cases e
    | 4, e => cases e
    | 5, e => cases e
    | 6, e => cases e
    | 7, e => cases e
    | _ + 8, e => cases e
  · cases (show y = .bool true from h)
    cases d'
    exact q H1
theorem ok_law (says : LawSays) (T : Txt K mg) : FnOk P w K mg base CX0 8 T.a_law T.fd_law ["_law_script"] (spLaw K) := by
  refine T.F_law.ok sc_law (fun vs H Q E h => ?_) (fun cdv A outer s H vs Q E hr h => ?_)
  · obtain ⟨_, _, rfl, _⟩ := h
    rfl
  · exact law_mk says (fun x => pss_cons (ps_set (i := 1) sc_law.nd rfl (Or.inl rfl) (pe_call (ok_law_cup T) (hr.mono (by decide)) (by rfl) T.m_law_cup T.F_law_cup.kp T.b_law_cup .nil pass0 (pa_cons (pv 0) pa_nil))) x)
      (ms_cons (ms_for (fi_rg1 (by rfl) T.n_range (fe_int)) (mg_name (pg_name (i := 2) sc_law.nd rfl (Or.inl rfl))) (ms_cons (ms_set (i := 3) (me_callS (msl_v (i := 1) (pv 1) (msl_nil)) (fun z => pe_call (ok_law_case T) (hr.mono (by decide)) (by rfl) T.m_law_case T.F_law_case.kp T.b_law_case .nil pass0 z)) (fun z => ps_set (i := 3) sc_law.nd rfl (Or.inl rfl) z)) (ms_one (ms_if (mt_w (mw_or (mt_not (mt_valc (me_callS (msl_v (i := 1) (pv 1) (msl_d (fe_var (pv 3)) (msl_d (me_callS (msl_v (i := 1) (pv 1) (msl_d (fe_var (pv 3)) (msl_nil))) (fun z => pe_call (ok_law_keys T) (hr.mono (by decide)) (by rfl) T.m_law_keys T.F_law_keys.kp T.b_law_keys .nil pass0 z)) (msl_nil)))) (fun z => pe_call (ok_law_right T) (hr.mono (by decide)) (by rfl) T.m_law_right T.F_law_right.kp T.b_law_right .nil pass0 z)) (fun z => pt_val z))) (mw_or1 (mt_not (mt_valc (me_callS (msl_v (i := 1) (pv 1) (msl_d (fe_var (pv 3)) (msl_d (fe_op op_mulA sr_mulA (fe_tup (fa_cons (fe_int) (fa_nil))) (fe_cb sc_len (fa_cons (fe_ix ix_A sr_ix (fe_ix ix_A sr_ix (fe_var (pv 3)) (fe_int) (fun _ _ => rfl)) (fe_int) (fun _ _ => rfl)) (fa_nil)) (fun z => pe_callB call_len_seq (by rfl) T.n_len boot_lenX z))) (msl_nil)))) (fun z => pe_call (ok_law_right T) (hr.mono (by decide)) (by rfl) T.m_law_right T.F_law_right.kp T.b_law_right .nil pass0 z)) (fun z => pt_val z)))))) (fs_one (fs_ret (fe_bl))) (fs_nil)))) (fun x y z => ps_for PassesOwn.never rfl x y z)) (fs_cons (fs_asg (fe_call (fa_nil) (fun _ => pe_call0 (ok_law_w T) (hr.mono (by decide)) (by rfl) T.m_law_w T.F_law_w.kp T.b_law_w .nil pass0)) (mg_tupX (K := K) (mgs_consX (mg_name (pg_name (i := 4) sc_law.nd rfl (Or.inl rfl))) (mgs_consX (mg_name (pg_name (i := 5) sc_law.nd rfl (Or.inl rfl))) (mgs_nil) (fun y z => pgs_cons y z)) (fun y z => pgs_cons y z)) (nlen_cons (nlen_cons (nlen_nil))) (fun y => pg_tup rfl y)) (fun y z => ps_asg y z)) (fs_cons (fs_if (ft_w (fw_or (ft_cmp (op_neD hr.units) (sr_ne) (fe_call (fa_cons (fe_var (pv 4)) (fa_cons (fe_tup (fa_cons (fe_int) (fa_cons (fe_int) (fa_cons (fe_int) (fa_cons (fe_int) (fa_nil)))))) (fa_nil))) (fun z => pe_call (ok_lets_once T) (hr.mono (by decide)) (by rfl) T.m_lets_once T.F_lets_once.kp T.b_lets_once .nil pass0 z)) (fe_tup (fa_cons (fe_tup (fa_cons (fe_int) (fa_cons (fe_int) (fa_nil)))) (fa_cons (fe_tup (fa_cons (fe_int) (fa_cons (fe_int) (fa_nil)))) (fa_cons (fe_tup (fa_cons (fe_int) (fa_cons (fe_int) (fa_nil)))) (fa_nil))))) (nomark _)) (fw_or1 (ft_cmp (op_neD hr.units) (sr_ne) (fe_call (fa_cons (fe_var (pv 4)) (fa_cons (fe_tup (fa_cons (fe_int) (fa_cons (fe_int) (fa_cons (fe_int) (fa_cons (fe_int) (fa_nil)))))) (fa_cons (fe_var (pv 5)) (fa_nil)))) (fun z => pe_call (ok_lets_always T) (hr.mono (by decide)) (by rfl) T.m_lets_always T.F_lets_always.kp T.b_lets_always .nil pass0 z)) (fe_lst (fa_cons (fe_tup (fa_cons (fe_tup (fa_cons (fe_int) (fa_cons (fe_int) (fa_nil)))) (fa_cons (fe_tup (fa_cons (fe_int) (fa_cons (fe_int) (fa_nil)))) (fa_nil)))) (fa_nil))) (nomark _))))) (fs_one (fs_ret (fe_bl))) (fs_nil)) (fs_cons (fs_if (ft_w (fw_or (ft_cmp (op_neD hr.units) (sr_ne) (fe_call (fa_cons (fe_var (pv 4)) (fa_cons (fe_tup (fa_cons (fe_int) (fa_cons (fe_int) (fa_cons (fe_int) (fa_cons (fe_int) (fa_nil)))))) (fa_cons (fe_var (pv 5)) (fa_nil)))) (fun z => pe_call (ok_lets_always T) (hr.mono (by decide)) (by rfl) T.m_lets_always T.F_lets_always.kp T.b_lets_always .nil pass0 z)) (fe_lst (fa_cons (fe_tup (fa_cons (fe_tup (fa_cons (fe_int) (fa_cons (fe_int) (fa_nil)))) (fa_cons (fe_tup (fa_cons (fe_int) (fa_cons (fe_int) (fa_nil)))) (fa_nil)))) (fa_cons (fe_tup (fa_cons (fe_tup (fa_cons (fe_int) (fa_cons (fe_int) (fa_nil)))) (fa_cons (fe_tup (fa_cons (fe_int) (fa_cons (fe_int) (fa_nil)))) (fa_nil)))) (fa_nil)))) (nomark _)) (fw_or1 (ft_cmp (op_neD hr.units) (sr_ne) (fe_call (fa_cons (fe_var (pv 4)) (fa_cons (fe_tup (fa_cons (fe_int) (fa_cons (fe_int) (fa_cons (fe_int) (fa_cons (fe_int) (fa_nil)))))) (fa_cons (fe_var (pv 5)) (fa_nil)))) (fun z => pe_call (ok_lets_always T) (hr.mono (by decide)) (by rfl) T.m_lets_always T.F_lets_always.kp T.b_lets_always .nil pass0 z)) (fe_lst (fa_cons (fe_var (pv 5)) (fa_nil))) (nomark _))))) (fs_one (fs_ret (fe_bl))) (fs_nil)) (fs_cons (fs_set (i := 6) (fe_tup (fa_cons (fe_tup (fa_cons (fe_int) (fa_cons (fe_int) (fa_nil)))) (fa_cons (fe_tup (fa_cons (fe_int) (fa_cons (fe_int) (fa_nil)))) (fa_cons (fe_tup (fa_cons (fe_int) (fa_cons (fe_int) (fa_nil)))) (fa_cons (fe_tup (fa_cons (fe_int) (fa_cons (fe_int) (fa_nil)))) (fa_cons (fe_tup (fa_cons (fe_int) (fa_cons (fe_int) (fa_nil)))) (fa_cons (fe_tup (fa_cons (fe_int) (fa_cons (fe_int) (fa_nil)))) (fa_nil)))))))) (fun z => ps_set (i := 6) sc_law.nd rfl (Or.inl rfl) z)) (fs_cons (fs_set (i := 7) (fe_tup (fa_cons (fe_tup (fa_cons (fe_int) (fa_cons (fe_tup (fa_cons (fe_int) (fa_cons (fe_int) (fa_cons (fe_int) (fa_cons (fe_int) (fa_cons (fe_int) (fa_nil))))))) (fa_nil)))) (fa_cons (fe_tup (fa_cons (fe_tup (fa_cons (fe_int) (fa_cons (fe_int) (fa_cons (fe_int) (fa_nil))))) (fa_cons (fe_tup (fa_cons (fe_int) (fa_cons (fe_int) (fa_cons (fe_int) (fa_nil))))) (fa_cons (fe_tup (fa_cons (fe_int) (fa_cons (fe_int) (fa_cons (fe_int) (fa_nil))))) (fa_cons (fe_tup (fa_cons (fe_int) (fa_cons (fe_int) (fa_cons (fe_int) (fa_nil))))) (fa_cons (fe_tup (fa_cons (fe_int) (fa_cons (fe_int) (fa_cons (fe_int) (fa_nil))))) (fa_nil))))))) (fa_cons (fe_tup (fa_cons (fe_int) (fa_cons (fe_int) (fa_cons (fe_int) (fa_cons (fe_int) (fa_cons (fe_int) (fa_nil))))))) (fa_nil))))) (fun z => ps_set (i := 7) sc_law.nd rfl (Or.inl rfl) z)) (fs_cons (fs_if (ft_cmp (op_neD hr.units) (sr_ne) (fe_call (fa_cons (fe_var (pv 7)) (fa_cons (fe_tup (fa_cons (fe_int) (fa_cons (fe_int) (fa_cons (fe_int) (fa_cons (fe_int) (fa_cons (fe_int) (fa_nil))))))) (fa_cons (fe_var (pv 6)) (fa_nil)))) (fun z => pe_call (ok_lets_always T) (hr.mono (by decide)) (by rfl) T.m_lets_always T.F_lets_always.kp T.b_lets_always .nil pass0 z)) (fe_lst (fa_cons (fe_tup (fa_cons (fe_tup (fa_cons (fe_int) (fa_cons (fe_int) (fa_nil)))) (fa_cons (fe_tup (fa_cons (fe_int) (fa_cons (fe_int) (fa_nil)))) (fa_cons (fe_tup (fa_cons (fe_int) (fa_cons (fe_int) (fa_nil)))) (fa_cons (fe_tup (fa_cons (fe_int) (fa_cons (fe_int) (fa_nil)))) (fa_cons (fe_tup (fa_cons (fe_int) (fa_cons (fe_int) (fa_nil)))) (fa_nil))))))) (fa_nil))) (nomark _)) (fs_one (fs_ret (fe_bl))) (fs_nil)) (fs_cons (fs_if (ft_w (fw_or (ft_cmp (op_neD hr.units) (sr_ne) (fe_call (fa_cons (fe_tup (fa_cons (fe_tup (fa_cons (fe_int) (fa_cons (fe_tup (fa_nil)) (fa_nil)))) (fa_cons (fe_tup (fa_nil)) (fa_cons (fe_tup (fa_nil)) (fa_nil))))) (fa_cons (fe_tup (fa_nil)) (fa_nil))) (fun z => pe_call (ok_lets_once T) (hr.mono (by decide)) (by rfl) T.m_lets_once T.F_lets_once.kp T.b_lets_once .nil pass0 z)) (fe_tup (fa_cons (fe_tup (fa_cons (fe_int) (fa_cons (fe_int) (fa_nil)))) (fa_cons (fe_tup (fa_cons (fe_int) (fa_cons (fe_int) (fa_nil)))) (fa_cons (fe_tup (fa_cons (fe_int) (fa_cons (fe_int) (fa_nil)))) (fa_cons (fe_tup (fa_cons (fe_int) (fa_cons (fe_int) (fa_nil)))) (fa_nil)))))) (nomark _)) (fw_or1 (ft_cmp (op_neD hr.units) (sr_ne) (fe_call (fa_cons (fe_tup (fa_cons (fe_tup (fa_cons (fe_int) (fa_cons (fe_tup (fa_nil)) (fa_nil)))) (fa_cons (fe_tup (fa_nil)) (fa_cons (fe_tup (fa_nil)) (fa_nil))))) (fa_cons (fe_tup (fa_nil)) (fa_nil))) (fun z => pe_call (ok_lets_once T) (hr.mono (by decide)) (by rfl) T.m_lets_once T.F_lets_once.kp T.b_lets_once .nil pass0 z)) (fe_tup (fa_nil)) (nomark _))))) (fs_one (fs_ret (fe_bl))) (fs_nil)) (fs_one (fs_ret (fe_and (fe_cmp (op_eqD hr.units) (sr_eq) (fe_call (fa_cons (fe_tup (fa_cons (fe_tup (fa_cons (fe_int) (fa_cons (fe_tup (fa_nil)) (fa_nil)))) (fa_cons (fe_tup (fa_nil)) (fa_cons (fe_tup (fa_nil)) (fa_nil))))) (fa_cons (fe_tup (fa_nil)) (fa_cons (fe_tup (fa_cons (fe_tup (fa_cons (fe_int) (fa_cons (fe_int) (fa_nil)))) (fa_nil))) (fa_nil)))) (fun z => pe_call (ok_lets_always T) (hr.mono (by decide)) (by rfl) T.m_lets_always T.F_lets_always.kp T.b_lets_always .nil pass0 z)) (fe_lst (fa_cons (fe_tup (fa_cons (fe_tup (fa_cons (fe_int) (fa_cons (fe_int) (fa_nil)))) (fa_nil))) (fa_nil))) (nomark _)) (fe_one (fe_cmp (op_eqD hr.units) (sr_eq) (fe_call (fa_cons (fe_call (fa_cons (fe_int) (fa_nil)) (fun z => pe_call (ok_law_line T) (hr.mono (by decide)) (by rfl) T.m_law_line T.F_law_line.kp T.b_law_line .nil pass0 z)) (fa_cons (fe_op op_mulA sr_mulA (fe_tup (fa_cons (fe_int) (fa_nil))) (fe_int)) (fa_cons (fe_tup (fa_cons (fe_tup (fa_cons (fe_int) (fa_cons (fe_int) (fa_nil)))) (fa_nil))) (fa_nil)))) (fun z => pe_call (ok_lets_always T) (hr.mono (by decide)) (by rfl) T.m_lets_always T.F_lets_always.kp T.b_lets_always .nil pass0 z)) (fe_lst (fa_cons (fe_tup (fa_nil)) (fa_nil))) (nomark _)))))))))))))) rfl h
end
end DL
/-! printed by gen.py: what the top has written; the head of the law -/
namespace DL
open PySem L2
theorem all_mk (says : LawSays) {l : PySem.W.OpenLaw} {w : World} {K : PySem.W.Frag} {h : Heap} {mg : Str → Option Value} {fa : Addr} (X : K.In h) (G : h.Ns mainGlobals mg) (hfa : mg "law" = some (.ref fa))
    {f1 f2 f3 f4 f5 f6 f7 f8 f9 f10 f11 f12 f13 f14 f15 f16 f17 f18 f19 f20 f21 f22 f23 f24 f25 f26 f27 f28 f29 f30 f31 f32 f33 f34 f35 f36 f37 f38 f39 f40 : Addr} {od1 an1 od2 an2 od3 an3 od4 an4 od5 an5 od6 an6 od7 an7 od8 an8 od9 an9 od10 an10 od11 an11 od12 an12 od13 an13 od14 an14 od15 an15 od16 an16 od17 an17 od18 an18 od19 an19 od20 an20 od21 an21 od22 an22 od23 an23 od24 an24 od25 an25 od26 an26 od27 an27 od28 an28 od29 an29 od30 an30 od31 an31 od32 an32 od33 an33 od34 an34 od35 an35 od36 an36 od37 an37 od38 an38 od39 an39 od40 an40 : Option Addr} {sl1 sl2 sl3 sl4 sl5 sl6 sl7 sl8 sl9 sl10 sl11 sl12 sl13 sl14 sl15 sl16 sl17 sl18 sl19 sl20 sl21 sl22 sl23 sl24 sl25 sl26 sl27 sl28 sl29 sl30 sl31 sl32 sl33 sl34 sl35 sl36 sl37 sl38 sl39 sl40 : Array (Option Value)} {oc1 kV1 dc1 pm1 cd1 ct1 oc2 kV2 dc2 pm2 cd2 ct2 oc3 kV3 dc3 pm3 cd3 ct3 oc4 kV4 dc4 pm4 cd4 ct4 oc5 kV5 dc5 pm5 cd5 ct5 oc6 kV6 dc6 pm6 cd6 ct6 oc7 kV7 dc7 pm7 cd7 ct7 oc8 kV8 dc8 pm8 cd8 ct8 oc9 kV9 dc9 pm9 cd9 ct9 oc10 kV10 dc10 pm10 cd10 ct10 oc11 kV11 dc11 pm11 cd11 ct11 oc12 kV12 dc12 pm12 cd12 ct12 oc13 kV13 dc13 pm13 cd13 ct13 oc14 kV14 dc14 pm14 cd14 ct14 oc15 kV15 dc15 pm15 cd15 ct15 oc16 kV16 dc16 pm16 cd16 ct16 oc17 kV17 dc17 pm17 cd17 ct17 oc18 kV18 dc18 pm18 cd18 ct18 oc19 kV19 dc19 pm19 cd19 ct19 oc20 kV20 dc20 pm20 cd20 ct20 oc21 kV21 dc21 pm21 cd21 ct21 oc22 kV22 dc22 pm22 cd22 ct22 oc23 kV23 dc23 pm23 cd23 ct23 oc24 kV24 dc24 pm24 cd24 ct24 oc25 kV25 dc25 pm25 cd25 ct25 oc26 kV26 dc26 pm26 cd26 ct26 oc27 kV27 dc27 pm27 cd27 ct27 oc28 kV28 dc28 pm28 cd28 ct28 oc29 kV29 dc29 pm29 cd29 ct29 oc30 kV30 dc30 pm30 cd30 ct30 oc31 kV31 dc31 pm31 cd31 ct31 oc32 kV32 dc32 pm32 cd32 ct32 oc33 kV33 dc33 pm33 cd33 ct33 oc34 kV34 dc34 pm34 cd34 ct34 oc35 kV35 dc35 pm35 cd35 ct35 oc36 kV36 dc36 pm36 cd36 ct36 oc37 kV37 dc37 pm37 cd37 ct37 oc38 kV38 dc38 pm38 cd38 ct38 oc39 kV39 dc39 pm39 cd39 ct39 oc40 kV40 dc40 pm40 cd40 ct40 : Value} {t1 t2 t3 t4 t5 t6 : Tok}
    (a1 : PySem.W.nsIn K mainGlobals "is_whole" = some (some (.ref f1))) (l1 : K.lookup f1 = some ⟨oc1, od1, .func (PySem.W.fnOf "is_whole" "is_whole" (defArgs s_is_whole) (defBody s_is_whole) (defScope s_is_whole) .none kV1 dc1 pm1 an1 cd1 ct1), sl1⟩) (c1 : PySem.W.codeIn K cd1 "is_whole" = true) (k1 : PySem.W.keepIn K (.ref f1) = true)
    (a2 : PySem.W.nsIn K mainGlobals "is_row_of" = some (some (.ref f2))) (l2 : K.lookup f2 = some ⟨oc2, od2, .func (PySem.W.fnOf "is_row_of" "is_row_of" (defArgs s_is_row_of) (defBody s_is_row_of) (defScope s_is_row_of) .none kV2 dc2 pm2 an2 cd2 ct2), sl2⟩) (c2 : PySem.W.codeIn K cd2 "is_row_of" = true) (k2 : PySem.W.keepIn K (.ref f2) = true)
    (a3 : PySem.W.nsIn K mainGlobals "fits_numbers" = some (some (.ref f3))) (l3 : K.lookup f3 = some ⟨oc3, od3, .func (PySem.W.fnOf "fits_numbers" "fits_numbers" (defArgs s_fits_numbers) (defBody s_fits_numbers) (defScope s_fits_numbers) .none kV3 dc3 pm3 an3 cd3 ct3), sl3⟩) (c3 : PySem.W.codeIn K cd3 "fits_numbers" = true) (k3 : PySem.W.keepIn K (.ref f3) = true)
    (a4 : PySem.W.nsIn K mainGlobals "fits_showing" = some (some (.ref f4))) (l4 : K.lookup f4 = some ⟨oc4, od4, .func (PySem.W.fnOf "fits_showing" "fits_showing" (defArgs s_fits_showing) (defBody s_fits_showing) (defScope s_fits_showing) .none kV4 dc4 pm4 an4 cd4 ct4), sl4⟩) (c4 : PySem.W.codeIn K cd4 "fits_showing" = true) (k4 : PySem.W.keepIn K (.ref f4) = true)
    (a5 : PySem.W.nsIn K mainGlobals "fits_put" = some (some (.ref f5))) (l5 : K.lookup f5 = some ⟨oc5, od5, .func (PySem.W.fnOf "fits_put" "fits_put" (defArgs s_fits_put) (defBody s_fits_put) (defScope s_fits_put) .none kV5 dc5 pm5 an5 cd5 ct5), sl5⟩) (c5 : PySem.W.codeIn K cd5 "fits_put" = true) (k5 : PySem.W.keepIn K (.ref f5) = true)
    (a6 : PySem.W.nsIn K mainGlobals "fits_case" = some (some (.ref f6))) (l6 : K.lookup f6 = some ⟨oc6, od6, .func (PySem.W.fnOf "fits_case" "fits_case" (defArgs s_fits_case) (defBody s_fits_case) (defScope s_fits_case) .none kV6 dc6 pm6 an6 cd6 ct6), sl6⟩) (c6 : PySem.W.codeIn K cd6 "fits_case" = true) (k6 : PySem.W.keepIn K (.ref f6) = true)
    (a7 : PySem.W.nsIn K mainGlobals "fits_lets" = some (some (.ref f7))) (l7 : K.lookup f7 = some ⟨oc7, od7, .func (PySem.W.fnOf "fits_lets" "fits_lets" (defArgs s_fits_lets) (defBody s_fits_lets) (defScope s_fits_lets) .none kV7 dc7 pm7 an7 cd7 ct7), sl7⟩) (c7 : PySem.W.codeIn K cd7 "fits_lets" = true) (k7 : PySem.W.keepIn K (.ref f7) = true)
    (a8 : PySem.W.nsIn K mainGlobals "need_case" = some (some (.ref f8))) (l8 : K.lookup f8 = some ⟨oc8, od8, .func (PySem.W.fnOf "need_case" "need_case" (defArgs s_need_case) (defBody s_need_case) (defScope s_need_case) .none kV8 dc8 pm8 an8 cd8 ct8), sl8⟩) (c8 : PySem.W.codeIn K cd8 "need_case" = true) (k8 : PySem.W.keepIn K (.ref f8) = true)
    (a9 : PySem.W.nsIn K mainGlobals "need_lets" = some (some (.ref f9))) (l9 : K.lookup f9 = some ⟨oc9, od9, .func (PySem.W.fnOf "need_lets" "need_lets" (defArgs s_need_lets) (defBody s_need_lets) (defScope s_need_lets) .none kV9 dc9 pm9 an9 cd9 ct9), sl9⟩) (c9 : PySem.W.codeIn K cd9 "need_lets" = true) (k9 : PySem.W.keepIn K (.ref f9) = true)
    (a10 : PySem.W.nsIn K mainGlobals "need_keys" = some (some (.ref f10))) (l10 : K.lookup f10 = some ⟨oc10, od10, .func (PySem.W.fnOf "need_keys" "need_keys" (defArgs s_need_keys) (defBody s_need_keys) (defScope s_need_keys) .none kV10 dc10 pm10 an10 cd10 ct10), sl10⟩) (c10 : PySem.W.codeIn K cd10 "need_keys" = true) (k10 : PySem.W.keepIn K (.ref f10) = true)
    (a11 : PySem.W.nsIn K mainGlobals "need_often" = some (some (.ref f11))) (l11 : K.lookup f11 = some ⟨oc11, od11, .func (PySem.W.fnOf "need_often" "need_often" (defArgs s_need_often) (defBody s_need_often) (defScope s_need_often) .none kV11 dc11 pm11 an11 cd11 ct11), sl11⟩) (c11 : PySem.W.codeIn K cd11 "need_often" = true) (k11 : PySem.W.keepIn K (.ref f11) = true)
    (a12 : PySem.W.nsIn K mainGlobals "behind" = some (some (.ref f12))) (l12 : K.lookup f12 = some ⟨oc12, od12, .func (PySem.W.fnOf "behind" "behind" (defArgs s_behind) (defBody s_behind) (defScope s_behind) .none kV12 dc12 pm12 an12 cd12 ct12), sl12⟩) (c12 : PySem.W.codeIn K cd12 "behind" = true) (k12 : PySem.W.keepIn K (.ref f12) = true)
    (a13 : PySem.W.nsIn K mainGlobals "answer_of" = some (some (.ref f13))) (l13 : K.lookup f13 = some ⟨oc13, od13, .func (PySem.W.fnOf "answer_of" "answer_of" (defArgs s_answer_of) (defBody s_answer_of) (defScope s_answer_of) .none kV13 dc13 pm13 an13 cd13 ct13), sl13⟩) (c13 : PySem.W.codeIn K cd13 "answer_of" = true) (k13 : PySem.W.keepIn K (.ref f13) = true)
    (a14 : PySem.W.nsIn K mainGlobals "changes_from" = some (some (.ref f14))) (l14 : K.lookup f14 = some ⟨oc14, od14, .func (PySem.W.fnOf "changes_from" "changes_from" (defArgs s_changes_from) (defBody s_changes_from) (defScope s_changes_from) .none kV14 dc14 pm14 an14 cd14 ct14), sl14⟩) (c14 : PySem.W.codeIn K cd14 "changes_from" = true) (k14 : PySem.W.keepIn K (.ref f14) = true)
    (a15 : PySem.W.nsIn K mainGlobals "trail_between" = some (some (.ref f15))) (l15 : K.lookup f15 = some ⟨oc15, od15, .func (PySem.W.fnOf "trail_between" "trail_between" (defArgs s_trail_between) (defBody s_trail_between) (defScope s_trail_between) .none kV15 dc15 pm15 an15 cd15 ct15), sl15⟩) (c15 : PySem.W.codeIn K cd15 "trail_between" = true) (k15 : PySem.W.keepIn K (.ref f15) = true)
    (a16 : PySem.W.nsIn K mainGlobals "most_of" = some (some (.ref f16))) (l16 : K.lookup f16 = some ⟨oc16, od16, .func (PySem.W.fnOf "most_of" "most_of" (defArgs s_most_of) (defBody s_most_of) (defScope s_most_of) .none kV16 dc16 pm16 an16 cd16 ct16), sl16⟩) (c16 : PySem.W.codeIn K cd16 "most_of" = true) (k16 : PySem.W.keepIn K (.ref f16) = true)
    (a17 : PySem.W.nsIn K mainGlobals "all_lots" = some (some (.ref f17))) (l17 : K.lookup f17 = some ⟨oc17, od17, .func (PySem.W.fnOf "all_lots" "all_lots" (defArgs s_all_lots) (defBody s_all_lots) (defScope s_all_lots) .none kV17 dc17 pm17 an17 cd17 ct17), sl17⟩) (c17 : PySem.W.codeIn K cd17 "all_lots" = true) (k17 : PySem.W.keepIn K (.ref f17) = true)
    (a18 : PySem.W.nsIn K mainGlobals "alike_pairs" = some (some (.ref f18))) (l18 : K.lookup f18 = some ⟨oc18, od18, .func (PySem.W.fnOf "alike_pairs" "alike_pairs" (defArgs s_alike_pairs) (defBody s_alike_pairs) (defScope s_alike_pairs) .none kV18 dc18 pm18 an18 cd18 ct18), sl18⟩) (c18 : PySem.W.codeIn K cd18 "alike_pairs" = true) (k18 : PySem.W.keepIn K (.ref f18) = true)
    (a19 : PySem.W.nsIn K mainGlobals "first_apart" = some (some (.ref f19))) (l19 : K.lookup f19 = some ⟨oc19, od19, .func (PySem.W.fnOf "first_apart" "first_apart" (defArgs s_first_apart) (defBody s_first_apart) (defScope s_first_apart) .none kV19 dc19 pm19 an19 cd19 ct19), sl19⟩) (c19 : PySem.W.codeIn K cd19 "first_apart" = true) (k19 : PySem.W.keepIn K (.ref f19) = true)
    (a20 : PySem.W.nsIn K mainGlobals "hold" = some (some (.ref f20))) (l20 : K.lookup f20 = some ⟨oc20, od20, .func (PySem.W.fnOf "hold" "hold" (defArgs s_hold) (defBody s_hold) (defScope s_hold) .none kV20 dc20 pm20 an20 cd20 ct20), sl20⟩) (c20 : PySem.W.codeIn K cd20 "hold" = true) (k20 : PySem.W.keepIn K (.ref f20) = true)
    (a21 : PySem.W.nsIn K mainGlobals "keys_hold" = some (some (.ref f21))) (l21 : K.lookup f21 = some ⟨oc21, od21, .func (PySem.W.fnOf "keys_hold" "keys_hold" (defArgs s_keys_hold) (defBody s_keys_hold) (defScope s_keys_hold) .none kV21 dc21 pm21 an21 cd21 ct21), sl21⟩) (c21 : PySem.W.codeIn K cd21 "keys_hold" = true) (k21 : PySem.W.keepIn K (.ref f21) = true)
    (a22 : PySem.W.nsIn K mainGlobals "is_once" = some (some (.ref f22))) (l22 : K.lookup f22 = some ⟨oc22, od22, .func (PySem.W.fnOf "is_once" "is_once" (defArgs s_is_once) (defBody s_is_once) (defScope s_is_once) .none kV22 dc22 pm22 an22 cd22 ct22), sl22⟩) (c22 : PySem.W.codeIn K cd22 "is_once" = true) (k22 : PySem.W.keepIn K (.ref f22) = true)
    (a23 : PySem.W.nsIn K mainGlobals "lets_once" = some (some (.ref f23))) (l23 : K.lookup f23 = some ⟨oc23, od23, .func (PySem.W.fnOf "lets_once" "lets_once" (defArgs s_lets_once) (defBody s_lets_once) (defScope s_lets_once) .none kV23 dc23 pm23 an23 cd23 ct23), sl23⟩) (c23 : PySem.W.codeIn K cd23 "lets_once" = true) (k23 : PySem.W.keepIn K (.ref f23) = true)
    (a24 : PySem.W.nsIn K mainGlobals "lets_always" = some (some (.ref f24))) (l24 : K.lookup f24 = some ⟨oc24, od24, .func (PySem.W.fnOf "lets_always" "lets_always" (defArgs s_lets_always) (defBody s_lets_always) (defScope s_lets_always) .none kV24 dc24 pm24 an24 cd24 ct24), sl24⟩) (c24 : PySem.W.codeIn K cd24 "lets_always" = true) (k24 : PySem.W.keepIn K (.ref f24) = true)
    (a25 : PySem.W.nsIn K mainGlobals "_law_cup" = some (some (.ref f25))) (l25 : K.lookup f25 = some ⟨oc25, od25, .func (PySem.W.fnOf "_law_cup" "_law_cup" (defArgs s_law_cup) (defBody s_law_cup) (defScope s_law_cup) .none kV25 dc25 pm25 an25 cd25 ct25), sl25⟩) (c25 : PySem.W.codeIn K cd25 "_law_cup" = true) (k25 : PySem.W.keepIn K (.ref f25) = true)
    (a26 : PySem.W.nsIn K mainGlobals "_law_roll" = some (some (.ref f26))) (l26 : K.lookup f26 = some ⟨oc26, od26, .func (PySem.W.fnOf "_law_roll" "_law_roll" (defArgs s_law_roll) (defBody s_law_roll) (defScope s_law_roll) .none kV26 dc26 pm26 an26 cd26 ct26), sl26⟩) (c26 : PySem.W.codeIn K cd26 "_law_roll" = true) (k26 : PySem.W.keepIn K (.ref f26) = true)
    (a27 : PySem.W.nsIn K mainGlobals "_law_some" = some (some (.ref f27))) (l27 : K.lookup f27 = some ⟨oc27, od27, .func (PySem.W.fnOf "_law_some" "_law_some" (defArgs s_law_some) (defBody s_law_some) (defScope s_law_some) .none kV27 dc27 pm27 an27 cd27 ct27), sl27⟩) (c27 : PySem.W.codeIn K cd27 "_law_some" = true) (k27 : PySem.W.keepIn K (.ref f27) = true)
    (a28 : PySem.W.nsIn K mainGlobals "_law_case" = some (some (.ref f28))) (l28 : K.lookup f28 = some ⟨oc28, od28, .func (PySem.W.fnOf "_law_case" "_law_case" (defArgs s_law_case) (defBody s_law_case) (defScope s_law_case) .none kV28 dc28 pm28 an28 cd28 ct28), sl28⟩) (c28 : PySem.W.codeIn K cd28 "_law_case" = true) (k28 : PySem.W.keepIn K (.ref f28) = true)
    (a29 : PySem.W.nsIn K mainGlobals "_law_changes" = some (some (.ref f29))) (l29 : K.lookup f29 = some ⟨oc29, od29, .func (PySem.W.fnOf "_law_changes" "_law_changes" (defArgs s_law_changes) (defBody s_law_changes) (defScope s_law_changes) .none kV29 dc29 pm29 an29 cd29 ct29), sl29⟩) (c29 : PySem.W.codeIn K cd29 "_law_changes" = true) (k29 : PySem.W.keepIn K (.ref f29) = true)
    (a30 : PySem.W.nsIn K mainGlobals "_law_keys" = some (some (.ref f30))) (l30 : K.lookup f30 = some ⟨oc30, od30, .func (PySem.W.fnOf "_law_keys" "_law_keys" (defArgs s_law_keys) (defBody s_law_keys) (defScope s_law_keys) .none kV30 dc30 pm30 an30 cd30 ct30), sl30⟩) (c30 : PySem.W.codeIn K cd30 "_law_keys" = true) (k30 : PySem.W.keepIn K (.ref f30) = true)
    (a31 : PySem.W.nsIn K mainGlobals "_law_behind" = some (some (.ref f31))) (l31 : K.lookup f31 = some ⟨oc31, od31, .func (PySem.W.fnOf "_law_behind" "_law_behind" (defArgs s_law_behind) (defBody s_law_behind) (defScope s_law_behind) .none kV31 dc31 pm31 an31 cd31 ct31), sl31⟩) (c31 : PySem.W.codeIn K cd31 "_law_behind" = true) (k31 : PySem.W.keepIn K (.ref f31) = true)
    (a32 : PySem.W.nsIn K mainGlobals "_law_answer" = some (some (.ref f32))) (l32 : K.lookup f32 = some ⟨oc32, od32, .func (PySem.W.fnOf "_law_answer" "_law_answer" (defArgs s_law_answer) (defBody s_law_answer) (defScope s_law_answer) .none kV32 dc32 pm32 an32 cd32 ct32), sl32⟩) (c32 : PySem.W.codeIn K cd32 "_law_answer" = true) (k32 : PySem.W.keepIn K (.ref f32) = true)
    (a33 : PySem.W.nsIn K mainGlobals "_law_far" = some (some (.ref f33))) (l33 : K.lookup f33 = some ⟨oc33, od33, .func (PySem.W.fnOf "_law_far" "_law_far" (defArgs s_law_far) (defBody s_law_far) (defScope s_law_far) .none kV33 dc33 pm33 an33 cd33 ct33), sl33⟩) (c33 : PySem.W.codeIn K cd33 "_law_far" = true) (k33 : PySem.W.keepIn K (.ref f33) = true)
    (a34 : PySem.W.nsIn K mainGlobals "_law_is_near" = some (some (.ref f34))) (l34 : K.lookup f34 = some ⟨oc34, od34, .func (PySem.W.fnOf "_law_is_near" "_law_is_near" (defArgs s_law_is_near) (defBody s_law_is_near) (defScope s_law_is_near) .none kV34 dc34 pm34 an34 cd34 ct34), sl34⟩) (c34 : PySem.W.codeIn K cd34 "_law_is_near" = true) (k34 : PySem.W.keepIn K (.ref f34) = true)
    (a35 : PySem.W.nsIn K mainGlobals "_law_w" = some (some (.ref f35))) (l35 : K.lookup f35 = some ⟨oc35, od35, .func (PySem.W.fnOf "_law_w" "_law_w" (defArgs s_law_w) (defBody s_law_w) (defScope s_law_w) .none kV35 dc35 pm35 an35 cd35 ct35), sl35⟩) (c35 : PySem.W.codeIn K cd35 "_law_w" = true) (k35 : PySem.W.keepIn K (.ref f35) = true)
    (a36 : PySem.W.nsIn K mainGlobals "_law_line" = some (some (.ref f36))) (l36 : K.lookup f36 = some ⟨oc36, od36, .func (PySem.W.fnOf "_law_line" "_law_line" (defArgs s_law_line) (defBody s_law_line) (defScope s_law_line) .none kV36 dc36 pm36 an36 cd36 ct36), sl36⟩) (c36 : PySem.W.codeIn K cd36 "_law_line" = true) (k36 : PySem.W.keepIn K (.ref f36) = true)
    (a37 : PySem.W.nsIn K mainGlobals "_law_holds" = some (some (.ref f37))) (l37 : K.lookup f37 = some ⟨oc37, od37, .func (PySem.W.fnOf "_law_holds" "_law_holds" (defArgs s_law_holds) (defBody s_law_holds) (defScope s_law_holds) .none kV37 dc37 pm37 an37 cd37 ct37), sl37⟩) (c37 : PySem.W.codeIn K cd37 "_law_holds" = true) (k37 : PySem.W.keepIn K (.ref f37) = true)
    (a38 : PySem.W.nsIn K mainGlobals "_law_greatest" = some (some (.ref f38))) (l38 : K.lookup f38 = some ⟨oc38, od38, .func (PySem.W.fnOf "_law_greatest" "_law_greatest" (defArgs s_law_greatest) (defBody s_law_greatest) (defScope s_law_greatest) .none kV38 dc38 pm38 an38 cd38 ct38), sl38⟩) (c38 : PySem.W.codeIn K cd38 "_law_greatest" = true) (k38 : PySem.W.keepIn K (.ref f38) = true)
    (a39 : PySem.W.nsIn K mainGlobals "_law_right" = some (some (.ref f39))) (l39 : K.lookup f39 = some ⟨oc39, od39, .func (PySem.W.fnOf "_law_right" "_law_right" (defArgs s_law_right) (defBody s_law_right) (defScope s_law_right) .none kV39 dc39 pm39 an39 cd39 ct39), sl39⟩) (c39 : PySem.W.codeIn K cd39 "_law_right" = true) (k39 : PySem.W.keepIn K (.ref f39) = true)
    (a40 : PySem.W.nsIn K mainGlobals "law" = some (some (.ref f40))) (l40 : K.lookup f40 = some ⟨oc40, od40, .func (PySem.W.fnOf "law" "law" (defArgs s_law) (defBody s_law) (defScope s_law) .none kV40 dc40 pm40 an40 cd40 ct40), sl40⟩) (c40 : PySem.W.codeIn K cd40 "law" = true) (k40 : PySem.W.keepIn K (.ref f40) = true)
    (y1 : PySem.W.nsIn K mainGlobals "WORTHS" = some (some (.int 6 t1)))
    (y2 : PySem.W.nsIn K mainGlobals "THINGS" = some (some (.int 12 t2)))
    (y3 : PySem.W.nsIn K mainGlobals "STAY" = some (some (.int 11 t3)))
    (y4 : PySem.W.nsIn K mainGlobals "ONCE" = some (some (.str "once" t4)))
    (y5 : PySem.W.nsIn K mainGlobals "ALWAYS" = some (some (.str "always" t5)))
    (y6 : PySem.W.nsIn K mainGlobals "MOST" = some (some (.int 6 t6)))
    (z1 : PySem.W.nsIn K mainGlobals "abs" = some none)
    (z2 : PySem.W.nsIn K mainGlobals "all" = some none)
    (z3 : PySem.W.nsIn K mainGlobals "any" = some none)
    (z4 : PySem.W.nsIn K mainGlobals "bool" = some none)
    (z5 : PySem.W.nsIn K mainGlobals "enumerate" = some none)
    (z6 : PySem.W.nsIn K mainGlobals "int" = some none)
    (z7 : PySem.W.nsIn K mainGlobals "isinstance" = some none)
    (z8 : PySem.W.nsIn K mainGlobals "len" = some none)
    (z9 : PySem.W.nsIn K mainGlobals "list" = some none)
    (z10 : PySem.W.nsIn K mainGlobals "min" = some none)
    (z11 : PySem.W.nsIn K mainGlobals "range" = some none)
    (z12 : PySem.W.nsIn K mainGlobals "sorted" = some none)
    (z13 : PySem.W.nsIn K mainGlobals "str" = some none)
    (z14 : PySem.W.nsIn K mainGlobals "tuple" = some none)
    (z15 : PySem.W.nsIn K mainGlobals "zip" = some none)
    : ∃ fd : FuncData, (∀ (s : Shared) (v : Value), BindsTo s fd ⟨[v], []⟩ [("_law_script", v)]) ∧ ∀ base : Heap, K.In base → base.Ns mainGlobals mg → FnOk l.prog w K mg base CX0 8 fa fd ["_law_script"] (spLaw K) := by
  have e := hfa.symm.trans (PySem.W.mg_of X G a40)
  cases e
  have F1 := fun_mk (st := s_is_whole) l1 c1 k1
  have b1 := F1.binds (ps := ["value", "low", "high"]) fun _ _ _ _ _ _ us hl => match us, hl with | [_, _, _], _ => rfl
  have F2 := fun_mk (st := s_is_row_of) l2 c2 k2
  have b2 := F2.binds (ps := ["value", "low", "high"]) fun _ _ _ _ _ _ us hl => match us, hl with | [_, _, _], _ => rfl
  have F3 := fun_mk (st := s_fits_numbers) l3 c3 k3
  have b3 := F3.binds (ps := ["value", "many", "greatest"]) fun _ _ _ _ _ _ us hl => match us, hl with | [_, _, _], _ => rfl
  have F4 := fun_mk (st := s_fits_showing) l4 c4 k4
  have b4 := F4.binds (ps := ["value"]) fun _ _ _ _ _ _ us hl => match us, hl with | [_], _ => rfl
  have F5 := fun_mk (st := s_fits_put) l5 c5 k5
  have b5 := F5.binds (ps := ["row", "worth", "value"]) fun _ _ _ _ _ _ us hl => match us, hl with | [_, _, _], _ => rfl
  have F6 := fun_mk (st := s_fits_case) l6 c6 k6
  have b6 := F6.binds (ps := ["value"]) fun _ _ _ _ _ _ us hl => match us, hl with | [_], _ => rfl
  have F7 := fun_mk (st := s_fits_lets) l7 c7 k7
  have b7 := F7.binds (ps := ["case", "value"]) fun _ _ _ _ _ _ us hl => match us, hl with | [_, _], _ => rfl
  have F8 := fun_mk (st := s_need_case) l8 c8 k8
  have b8 := F8.binds (ps := ["value"]) fun _ _ _ _ _ _ us hl => match us, hl with | [_], _ => rfl
  have F9 := fun_mk (st := s_need_lets) l9 c9 k9
  have b9 := F9.binds (ps := ["case", "value"]) fun _ _ _ _ _ _ us hl => match us, hl with | [_, _], _ => rfl
  have F10 := fun_mk (st := s_need_keys) l10 c10 k10
  have b10 := F10.binds (ps := ["case", "value"]) fun _ _ _ _ _ _ us hl => match us, hl with | [_, _], _ => rfl
  have F11 := fun_mk (st := s_need_often) l11 c11 k11
  have b11 := F11.binds (ps := ["value"]) fun _ _ _ _ _ _ us hl => match us, hl with | [_], _ => rfl
  have F12 := fun_mk (st := s_behind) l12 c12 k12
  have b12 := F12.binds (ps := ["case", "thing", "change"]) fun _ _ _ _ _ _ us hl => match us, hl with | [_, _, _], _ => rfl
  have F13 := fun_mk (st := s_answer_of) l13 c13 k13
  have b13 := F13.binds (ps := ["case", "thing", "change"]) fun _ _ _ _ _ _ us hl => match us, hl with | [_, _, _], _ => rfl
  have F14 := fun_mk (st := s_changes_from) l14 c14 k14
  have b14 := F14.binds (ps := ["lets", "worth"]) fun _ _ _ _ _ _ us hl => match us, hl with | [_, _], _ => rfl
  have F15 := fun_mk (st := s_trail_between) l15 c15 k15
  have b15 := F15.binds (ps := ["case", "lets", "one", "other", "most"]) fun _ _ _ _ _ _ us hl => match us, hl with | [_, _, _, _, _], _ => rfl
  have F16 := fun_mk (st := s_most_of) l16 c16 k16
  have b16 := F16.binds (ps := ["often"]) fun _ _ _ _ _ _ us hl => match us, hl with | [_], _ => rfl
  have F17 := fun_mk (st := s_all_lots) l17 c17 k17
  have b17 := F17.binds (ps := ["many"]) fun _ _ _ _ _ _ us hl => match us, hl with | [_], _ => rfl
  have F18 := fun_mk (st := s_alike_pairs) l18 c18 k18
  have b18 := F18.binds (ps := ["case", "keys"]) fun _ _ _ _ _ _ us hl => match us, hl with | [_, _], _ => rfl
  have F19 := fun_mk (st := s_first_apart) l19 c19 k19
  have b19 := F19.binds (ps := ["case", "lets", "keys", "often"]) fun _ _ _ _ _ _ us hl => match us, hl with | [_, _, _, _], _ => rfl
  have F20 := fun_mk (st := s_hold) l20 c20 k20
  have b20 := F20.binds (ps := ["case", "lets", "keys", "often"]) fun _ _ _ _ _ _ us hl => match us, hl with | [_, _, _, _], _ => rfl
  have F21 := fun_mk (st := s_keys_hold) l21 c21 k21
  have b21 := F21.binds (ps := ["case", "lets", "keys", "often"]) fun _ _ _ _ _ _ us hl => match us, hl with | [_, _, _, _], _ => rfl
  have F22 := fun_mk (st := s_is_once) l22 c22 k22
  have b22 := F22.binds (ps := ["case", "pairs", "change"]) fun _ _ _ _ _ _ us hl => match us, hl with | [_, _, _], _ => rfl
  have F23 := fun_mk (st := s_lets_once) l23 c23 k23
  have b23 := F23.binds (ps := ["case", "keys"]) fun _ _ _ _ _ _ us hl => match us, hl with | [_, _], _ => rfl
  have F24 := fun_mk (st := s_lets_always) l24 c24 k24
  have b24 := F24.binds (ps := ["case", "keys", "lets"]) fun _ _ _ _ _ _ us hl => match us, hl with | [_, _, _], _ => rfl
  have F25 := fun_mk (st := s_law_cup) l25 c25 k25
  have b25 := F25.binds (ps := ["_law_script"]) fun _ _ _ _ _ _ us hl => match us, hl with | [_], _ => rfl
  have F26 := fun_mk (st := s_law_roll) l26 c26 k26
  have b26 := F26.binds (ps := ["_law_cup_here", "_law_many"]) fun _ _ _ _ _ _ us hl => match us, hl with | [_, _], _ => rfl
  have F27 := fun_mk (st := s_law_some) l27 c27 k27
  have b27 := F27.binds (ps := ["_law_cup_here", "_law_things"]) fun _ _ _ _ _ _ us hl => match us, hl with | [_, _], _ => rfl
  have F28 := fun_mk (st := s_law_case) l28 c28 k28
  have b28 := F28.binds (ps := ["_law_cup_here"]) fun _ _ _ _ _ _ us hl => match us, hl with | [_], _ => rfl
  have F29 := fun_mk (st := s_law_changes) l29 c29 k29
  have b29 := F29.binds (ps := ["_law_many"]) fun _ _ _ _ _ _ us hl => match us, hl with | [_], _ => rfl
  have F30 := fun_mk (st := s_law_keys) l30 c30 k30
  have b30 := F30.binds (ps := ["_law_cup_here", "_law_case_here"]) fun _ _ _ _ _ _ us hl => match us, hl with | [_, _], _ => rfl
  have F31 := fun_mk (st := s_law_behind) l31 c31 k31
  have b31 := F31.binds (ps := ["_law_case_here", "_law_thing", "_law_change"]) fun _ _ _ _ _ _ us hl => match us, hl with | [_, _, _], _ => rfl
  have F32 := fun_mk (st := s_law_answer) l32 c32 k32
  have b32 := F32.binds (ps := ["_law_case_here", "_law_thing", "_law_change"]) fun _ _ _ _ _ _ us hl => match us, hl with | [_, _, _], _ => rfl
  have F33 := fun_mk (st := s_law_far) l33 c33 k33
  have b33 := F33.binds (ps := ["_law_case_here", "_law_lets_here", "_law_most"]) fun _ _ _ _ _ _ us hl => match us, hl with | [_, _, _], _ => rfl
  have F34 := fun_mk (st := s_law_is_near) l34 c34 k34
  have b34 := F34.binds (ps := ["_law_case_here", "_law_lets_here", "_law_far_here", "_law_one", "_law_two", "_law_turn"]) fun _ _ _ _ _ _ us hl => match us, hl with | [_, _, _, _, _, _], _ => rfl
  have F35 := fun_mk (st := s_law_w) l35 c35 k35
  have b35 := F35.binds (ps := []) fun _ _ _ _ _ _ us hl => match us, hl with | [], _ => rfl
  have F36 := fun_mk (st := s_law_line) l36 c36 k36
  have b36 := F36.binds (ps := ["_law_many"]) fun _ _ _ _ _ _ us hl => match us, hl with | [_], _ => rfl
  have F37 := fun_mk (st := s_law_holds) l37 c37 k37
  have b37 := F37.binds (ps := ["_law_case_here", "_law_lets_here", "_law_keys_here", "_law_most"]) fun _ _ _ _ _ _ us hl => match us, hl with | [_, _, _, _], _ => rfl
  have F38 := fun_mk (st := s_law_greatest) l38 c38 k38
  have b38 := F38.binds (ps := ["_law_case_here", "_law_lets_here", "_law_keys_here"]) fun _ _ _ _ _ _ us hl => match us, hl with | [_, _, _], _ => rfl
  have F39 := fun_mk (st := s_law_right) l39 c39 k39
  have b39 := F39.binds (ps := ["_law_cup_here", "_law_case_here", "_law_keys_here"]) fun _ _ _ _ _ _ us hl => match us, hl with | [_, _, _], _ => rfl
  have F40 := fun_mk (st := s_law) l40 c40 k40
  have b40 := F40.binds (ps := ["_law_script"]) fun _ _ _ _ _ _ us hl => match us, hl with | [_], _ => rfl
  exact ⟨PySem.W.fnOf "law" "law" (defArgs s_law) (defBody s_law) (defScope s_law) .none kV40 dc40 pm40 an40 cd40 ct40, fun s v => .of_eq rfl, fun base _ _ => ok_law says { a_is_whole := f1, fd_is_whole := _, F_is_whole := F1, m_is_whole := PySem.W.mg_of X G a1, b_is_whole := b1, a_is_row_of := f2, fd_is_row_of := _, F_is_row_of := F2, m_is_row_of := PySem.W.mg_of X G a2, b_is_row_of := b2, a_fits_numbers := f3, fd_fits_numbers := _, F_fits_numbers := F3, m_fits_numbers := PySem.W.mg_of X G a3, b_fits_numbers := b3, a_fits_showing := f4, fd_fits_showing := _, F_fits_showing := F4, m_fits_showing := PySem.W.mg_of X G a4, b_fits_showing := b4, a_fits_put := f5, fd_fits_put := _, F_fits_put := F5, m_fits_put := PySem.W.mg_of X G a5, b_fits_put := b5, a_fits_case := f6, fd_fits_case := _, F_fits_case := F6, m_fits_case := PySem.W.mg_of X G a6, b_fits_case := b6, a_fits_lets := f7, fd_fits_lets := _, F_fits_lets := F7, m_fits_lets := PySem.W.mg_of X G a7, b_fits_lets := b7, a_need_case := f8, fd_need_case := _, F_need_case := F8, m_need_case := PySem.W.mg_of X G a8, b_need_case := b8, a_need_lets := f9, fd_need_lets := _, F_need_lets := F9, m_need_lets := PySem.W.mg_of X G a9, b_need_lets := b9, a_need_keys := f10, fd_need_keys := _, F_need_keys := F10, m_need_keys := PySem.W.mg_of X G a10, b_need_keys := b10, a_need_often := f11, fd_need_often := _, F_need_often := F11, m_need_often := PySem.W.mg_of X G a11, b_need_often := b11, a_behind := f12, fd_behind := _, F_behind := F12, m_behind := PySem.W.mg_of X G a12, b_behind := b12, a_answer_of := f13, fd_answer_of := _, F_answer_of := F13, m_answer_of := PySem.W.mg_of X G a13, b_answer_of := b13, a_changes_from := f14, fd_changes_from := _, F_changes_from := F14, m_changes_from := PySem.W.mg_of X G a14, b_changes_from := b14, a_trail_between := f15, fd_trail_between := _, F_trail_between := F15, m_trail_between := PySem.W.mg_of X G a15, b_trail_between := b15, a_most_of := f16, fd_most_of := _, F_most_of := F16, m_most_of := PySem.W.mg_of X G a16, b_most_of := b16, a_all_lots := f17, fd_all_lots := _, F_all_lots := F17, m_all_lots := PySem.W.mg_of X G a17, b_all_lots := b17, a_alike_pairs := f18, fd_alike_pairs := _, F_alike_pairs := F18, m_alike_pairs := PySem.W.mg_of X G a18, b_alike_pairs := b18, a_first_apart := f19, fd_first_apart := _, F_first_apart := F19, m_first_apart := PySem.W.mg_of X G a19, b_first_apart := b19, a_hold := f20, fd_hold := _, F_hold := F20, m_hold := PySem.W.mg_of X G a20, b_hold := b20, a_keys_hold := f21, fd_keys_hold := _, F_keys_hold := F21, m_keys_hold := PySem.W.mg_of X G a21, b_keys_hold := b21, a_is_once := f22, fd_is_once := _, F_is_once := F22, m_is_once := PySem.W.mg_of X G a22, b_is_once := b22, a_lets_once := f23, fd_lets_once := _, F_lets_once := F23, m_lets_once := PySem.W.mg_of X G a23, b_lets_once := b23, a_lets_always := f24, fd_lets_always := _, F_lets_always := F24, m_lets_always := PySem.W.mg_of X G a24, b_lets_always := b24, a_law_cup := f25, fd_law_cup := _, F_law_cup := F25, m_law_cup := PySem.W.mg_of X G a25, b_law_cup := b25, a_law_roll := f26, fd_law_roll := _, F_law_roll := F26, m_law_roll := PySem.W.mg_of X G a26, b_law_roll := b26, a_law_some := f27, fd_law_some := _, F_law_some := F27, m_law_some := PySem.W.mg_of X G a27, b_law_some := b27, a_law_case := f28, fd_law_case := _, F_law_case := F28, m_law_case := PySem.W.mg_of X G a28, b_law_case := b28, a_law_changes := f29, fd_law_changes := _, F_law_changes := F29, m_law_changes := PySem.W.mg_of X G a29, b_law_changes := b29, a_law_keys := f30, fd_law_keys := _, F_law_keys := F30, m_law_keys := PySem.W.mg_of X G a30, b_law_keys := b30, a_law_behind := f31, fd_law_behind := _, F_law_behind := F31, m_law_behind := PySem.W.mg_of X G a31, b_law_behind := b31, a_law_answer := f32, fd_law_answer := _, F_law_answer := F32, m_law_answer := PySem.W.mg_of X G a32, b_law_answer := b32, a_law_far := f33, fd_law_far := _, F_law_far := F33, m_law_far := PySem.W.mg_of X G a33, b_law_far := b33, a_law_is_near := f34, fd_law_is_near := _, F_law_is_near := F34, m_law_is_near := PySem.W.mg_of X G a34, b_law_is_near := b34, a_law_w := f35, fd_law_w := _, F_law_w := F35, m_law_w := PySem.W.mg_of X G a35, b_law_w := b35, a_law_line := f36, fd_law_line := _, F_law_line := F36, m_law_line := PySem.W.mg_of X G a36, b_law_line := b36, a_law_holds := f37, fd_law_holds := _, F_law_holds := F37, m_law_holds := PySem.W.mg_of X G a37, b_law_holds := b37, a_law_greatest := f38, fd_law_greatest := _, F_law_greatest := F38, m_law_greatest := PySem.W.mg_of X G a38, b_law_greatest := b38, a_law_right := f39, fd_law_right := _, F_law_right := F39, m_law_right := PySem.W.mg_of X G a39, b_law_right := b39, a_law := fa, fd_law := _, F_law := F40, m_law := PySem.W.mg_of X G a40, b_law := b40, t_WORTHS := t1, m_WORTHS := PySem.W.mg_of X G y1, t_THINGS := t2, m_THINGS := PySem.W.mg_of X G y2, t_STAY := t3, m_STAY := PySem.W.mg_of X G y3, t_ONCE := t4, m_ONCE := PySem.W.mg_of X G y4, t_ALWAYS := t5, m_ALWAYS := PySem.W.mg_of X G y5, t_MOST := t6, m_MOST := PySem.W.mg_of X G y6, n_abs := PySem.W.mg_none_of X G z1, n_all := PySem.W.mg_none_of X G z2, n_any := PySem.W.mg_none_of X G z3, n_bool := PySem.W.mg_none_of X G z4, n_enumerate := PySem.W.mg_none_of X G z5, n_int := PySem.W.mg_none_of X G z6, n_isinstance := PySem.W.mg_none_of X G z7, n_len := PySem.W.mg_none_of X G z8, n_list := PySem.W.mg_none_of X G z9, n_min := PySem.W.mg_none_of X G z10, n_range := PySem.W.mg_none_of X G z11, n_sorted := PySem.W.mg_none_of X G z12, n_str := PySem.W.mg_none_of X G z13, n_tuple := PySem.W.mg_none_of X G z14, n_zip := PySem.W.mg_none_of X G z15 }⟩
end DL
/-! P1: plain data; cases as numbers; what is behind a change. -/
namespace DL
open PySem L2
/-! ### rules to evaluate with -/
section
variable (f g h : FM) (fa : FAa) (s t : FSt) (u v : FTt) (pg : PGd) (ρ : DEnv) (i j l : Nat) (x : PyData) (fr gr : PyData → PyData → Option PyData) (F : List PyData → Option PyData) (is : PyData → Bool)
theorem a_Seq : fSeq s t ρ = (s ρ).bind fun o => match o with | .nx ρ' => t ρ' | o => some o := rfl
theorem a_Asg : fAsg f pg ρ = (f ρ).bind fun x => (pg x ρ).map .nx := rfl
theorem a_Ret : fRet f ρ = (f ρ).map .rt := rfl
theorem a_Op : fOp fr f g ρ = (f ρ).bind fun x => (g ρ).bind fun y => fr x y := rfl
theorem a_Var : fVar i ρ = match ρ[i]? with | some (some (.d x)) => some x | _ => none := rfl
theorem a_C : fC x ρ = some x := rfl
theorem a_Call : fCall F fa ρ = (fa ρ).bind F := rfl
theorem a_Cons : fCons f fa ρ = (f ρ).bind fun x => (fa ρ).map fun xs => x :: xs := rfl
theorem a_Nil : fNil ρ = some [] := rfl
theorem a_Tup : fTup fa ρ = (fa ρ).map fun xs => .tuple xs := rfl
theorem a_Lst : fLst fa ρ = (fa ρ).map fun xs => .list xs := rfl
theorem a_Test : fTest f ρ = (f ρ).bind asB := rfl
theorem a_IfS : fIfS u s t ρ = (u ρ).bind fun b => if b = true then s ρ else t ρ := rfl
theorem a_Next : fNext ρ = some (.nx ρ) := rfl
theorem a_And : fAnd u v ρ = (u ρ).bind fun k => if k = true then v ρ else some false := rfl
theorem a_Or : fOr u v ρ = (u ρ).bind fun k => if k = true then some true else v ρ := rfl
theorem a_Not : fNot u ρ = (u ρ).map fun k => !k := rfl
theorem a_If : fIf u f g ρ = (u ρ).bind fun k => if k = true then f ρ else g ρ := rfl
theorem a_IsN : fIsN f ρ = (f ρ).map fun x => .bool (isNoneD x) := rfl
theorem a_NotN : fNotN f ρ = (f ρ).map fun x => .bool (!isNoneD x) := rfl
theorem a_AndV : fAndV f g ρ = (fTest f ρ).bind fun k => if k = true then g ρ else some (.bool false) := rfl
theorem a_OrV : fOrV f g ρ = (fTest f ρ).bind fun k => if k = true then some (.bool true) else g ρ := rfl
theorem a_NotV : fNotV f ρ = (fTest f ρ).map fun k => .bool (!k) := rfl
theorem a_Chain : fChain fr gr f g h ρ = (f ρ).bind fun x => (g ρ).bind fun y => ((fr x y).bind asB).bind fun k => if k = true then (h ρ).bind fun z => gr y z else some (.bool false) := rfl
theorem a_Isi : fIsi is f ρ = (f ρ).map fun x => .bool (is x) := rfl
theorem a_Drop : fDrop f ρ = (f ρ).map fun _ => .nx ρ := rfl
theorem a_ItT : fItT f ρ = (f ρ).bind asT := rfl
theorem a_ItL : fItL f ρ = (f ρ).bind asL := rfl
theorem a_Yes : fYes ρ = some true := rfl
theorem a_Rg1 : fRg1 f ρ = ((f ρ).bind asI).bind fun i => if rngOk i then some (rangeD 0 i) else none := rfl
theorem a_Rg2 : fRg2 f g ρ = ((f ρ).bind asI).bind fun i => ((g ρ).bind asI).bind fun j => if rngOk i ∧ rngOk j then some (rangeD i j) else none := rfl
theorem a_LstRg : fLstRg f ρ = ((f ρ).bind asI).bind fun i => if 0 ≤ i ∧ i ≤ 16777216 then some (.list (rangeD 0 i)) else none := rfl
theorem a_Par : fPar i j fa ρ = (fa ρ).bind fun xs => match xs with | [x, y] => some (.nx ((ρ.set i (some (.d x))).set j (some (.d y)))) | _ => none := rfl
theorem a_Par3 : fPar3 i j l fa ρ = (fa ρ).bind fun xs => match xs with | [x, y, z] => some (.nx (((ρ.set i (some (.d x))).set j (some (.d y))).set l (some (.d z)))) | _ => none := rfl
theorem a_From : fFrom f g ρ = (f ρ).bind fun x => ((g ρ).bind asI).bind fun i => slD x (some i) none := rfl
theorem a_Zip : fZip f g ρ = ((f ρ).bind asT).bind fun xs => ((g ρ).bind asT).map fun ys => (xs.zip ys).map fun p => .tuple [p.1, p.2] := rfl
theorem a_Enum : fEnum f ρ = ((f ρ).bind asT).map enumD := rfl
end
/-! ### plain data: == is = -/
def pl : Nat → PyData → Bool
  | _, .none => true
  | _, .int _ => true
  | n + 1, .list xs => xs.all (pl n)
  | n + 1, .tuple xs => xs.all (pl n)
  | _, _ => false
theorem pl_lay : ∀ (n : Nat) (d : PyData), pl n d = true → d.canLay0 = true ∧ d.depth ≤ n := by
  intro n
  induction n with
  | zero =>
    intro d h
    cases d <;> first | (simp [pl] at h; done) | (exact ⟨by simp only [PyData.canLay0], by simp only [PyData.depth]; exact Nat.zero_le _⟩)
  | succ n ih =>
    have all : ∀ xs : List PyData, xs.all (pl n) = true → PyData.canLayAll0 xs = true ∧ PyData.depthAll xs ≤ n := by
      intro xs
      induction xs with
      | nil => intro _; exact ⟨by simp only [PyData.canLayAll0], by simp only [PyData.depthAll]; exact Nat.zero_le _⟩
      | cons x xs ih2 =>
        intro h
        rw [List.all_cons, Bool.and_eq_true] at h
        obtain ⟨h1, h2⟩ := ih x h.1
        obtain ⟨h3, h4⟩ := ih2 h.2
        exact ⟨by simp only [PyData.canLayAll0, h1, h3, Bool.and_self], by simp only [PyData.depthAll]; omega⟩
    intro d h
    cases d <;> first
      | (simp [pl] at h; done)
      | (exact ⟨by simp only [PyData.canLay0], by simp only [PyData.depth]; exact Nat.zero_le _⟩)
      | (rename_i xs; obtain ⟨h1, h2⟩ := all xs (by simpa [pl] using h); exact ⟨by simp only [PyData.canLay0]; exact h1, by simp only [PyData.depth]; omega⟩)
theorem pl_shaped {n : Nat} {d : PyData} (h : pl n d = true) (hn : n ≤ 64) : SeqAt.shaped d = true := by
  obtain ⟨h1, h2⟩ := pl_lay n d h
  unfold SeqAt.shaped
  rw [h1, decide_eq_true (Nat.le_trans h2 hn)]
  rfl
theorem pl_eqv : ∀ (n : Nat) (d e : PyData), pl n d = true → pl n e = true → (PyData.eqv d e = true ↔ d = e) := by
  intro n
  induction n with
  | zero =>
    intro d e h1 h2
    cases d <;> first | (simp [pl] at h1; done) | skip
    · cases e <;> first | (simp [pl] at h2; done) | (simp [PyData.eqv])
    · cases e <;> first | (simp [pl] at h2; done) | (simp [PyData.eqv])
  | succ n ih =>
    have all : ∀ xs ys : List PyData, xs.all (pl n) = true → ys.all (pl n) = true → (PyData.eqvAll xs ys = true ↔ xs = ys) := by
      intro xs
      induction xs with
      | nil => intro ys _ _; cases ys <;> simp [PyData.eqvAll]
      | cons x xs ih2 =>
        intro ys h1 h2
        cases ys with
        | nil => simp [PyData.eqvAll]
        | cons y ys =>
          rw [List.all_cons, Bool.and_eq_true] at h1 h2
          simp only [PyData.eqvAll, Bool.and_eq_true, List.cons.injEq]
          rw [ih x y h1.1 h2.1, ih2 ys h1.2 h2.2]
    intro d e h1 h2
    cases d <;> first | (simp [pl] at h1; done) | skip
    · cases e <;> first | (simp [pl] at h2; done) | (simp [PyData.eqv])
    · cases e <;> first | (simp [pl] at h2; done) | (simp [PyData.eqv])
    · rename_i xs
      cases e <;> first | (simp [pl] at h2; done) | skip
      · simp [PyData.eqv]
      · simp [PyData.eqv]
      · rename_i ys
        simp only [PyData.eqv, PyData.list.injEq]
        exact all xs ys (by simpa [pl] using h1) (by simpa [pl] using h2)
      · simp [PyData.eqv]
    · rename_i xs
      cases e <;> first | (simp [pl] at h2; done) | skip
      · simp [PyData.eqv]
      · simp [PyData.eqv]
      · simp [PyData.eqv]
      · rename_i ys
        simp only [PyData.eqv, PyData.tuple.injEq]
        exact all xs ys (by simpa [pl] using h1) (by simpa [pl] using h2)
theorem eqD_pl {n : Nat} {x y : PyData} (hn : n ≤ 64) (h1 : pl n x = true) (h2 : pl n y = true) {p : Prop} [Decidable p] (hp : x = y ↔ p) : eqD x y = some (.bool (decide p)) := by
  unfold eqD
  rw [pl_shaped h1 hn, pl_shaped h2 hn, if_pos (show (true && true) = true from rfl)]
  have e : PyData.eqv x y = decide p := Bool.eq_iff_iff.mpr ((pl_eqv n x y h1 h2).trans (hp.trans (decide_eq_true_iff (p := p)).symm))
  rw [e]
theorem neD_pl {n : Nat} {x y : PyData} (hn : n ≤ 64) (h1 : pl n x = true) (h2 : pl n y = true) {p : Prop} [Decidable p] (hp : x = y ↔ p) : neD x y = some (.bool (!decide p)) := by
  unfold neD
  rw [pl_shaped h1 hn, pl_shaped h2 hn, if_pos (show (true && true) = true from rfl)]
  have e : PyData.eqv x y = decide p := Bool.eq_iff_iff.mpr ((pl_eqv n x y h1 h2).trans (hp.trans (decide_eq_true_iff (p := p)).symm))
  rw [e]
theorem inL_pl {n : Nat} {x : PyData} : ∀ {ys : List PyData}, pl n x = true → ys.all (pl n) = true → (inL x ys = true ↔ x ∈ ys)
  | [], _, _ => by simp [inL]
  | y :: ys, h1, h2 => by
    rw [List.all_cons, Bool.and_eq_true] at h2
    have ih := inL_pl h1 h2.2
    unfold inL at ih ⊢
    rw [List.any_cons, Bool.or_eq_true, pl_eqv n y x h2.1 h1, ih, List.mem_cons]
    exact ⟨fun h => h.imp Eq.symm id, fun h => h.imp Eq.symm id⟩
/-! ### numbers -/
abbrev nD (n : Nat) : PyData := .int (n : Nat)
def oD : Option Nat → PyData
  | none => .none
  | some n => nD n
abbrev Ch := Nat × Nat
abbrev cD (c : Ch) : PyData := .tuple [nD c.1, nD c.2]
abbrev rD (r : List Ch) : PyData := .tuple (r.map cD)
theorem nD_inj {a b : Nat} : nD a = nD b ↔ a = b := by
  constructor
  · intro h
    injection h with h
    exact Int.ofNat.inj h
  · intro h
    rw [h]
theorem oD_inj {a b : Option Nat} : oD a = oD b ↔ a = b := by
  cases a with
  | none => cases b <;> simp [oD]
  | some x => cases b with
    | none => simp [oD]
    | some y =>
      show nD x = nD y ↔ _
      rw [nD_inj, Option.some.injEq]
theorem cD_inj {a b : Ch} : cD a = cD b ↔ a = b := by
  obtain ⟨a1, a2⟩ := a
  obtain ⟨b1, b2⟩ := b
  show PyData.tuple [nD a1, nD a2] = PyData.tuple [nD b1, nD b2] ↔ _
  rw [PyData.tuple.injEq, List.cons.injEq, List.cons.injEq, nD_inj, nD_inj, Prod.mk.injEq]
  exact ⟨fun h => ⟨h.1, h.2.1⟩, fun h => ⟨h.1, h.2, rfl⟩⟩
theorem map_inj {α β : Type} {f : α → β} (h : ∀ a b, f a = f b ↔ a = b) {xs ys : List α} : xs.map f = ys.map f ↔ xs = ys := List.map_inj_right fun a b e => (h a b).mp e
theorem rD_inj {a b : List Ch} : rD a = rD b ↔ a = b := by
  rw [PyData.tuple.injEq]
  exact map_inj fun _ _ => cD_inj
theorem pl_n {k n : Nat} : pl k (nD n) = true := by cases k <;> rfl
theorem pl_o {k : Nat} {o : Option Nat} : pl k (oD o) = true := by cases o <;> cases k <;> rfl
theorem pl_c {k : Nat} {c : Ch} : pl (k + 1) (cD c) = true := by
  show [nD c.1, nD c.2].all (pl k) = true
  simp [pl_n]
theorem pl_map {α : Type} {k : Nat} {f : α → PyData} (h : ∀ x, pl k (f x) = true) (xs : List α) : (xs.map f).all (pl k) = true := by
  rw [List.all_map, List.all_eq_true]
  exact fun x _ => h x
theorem pl_r {k : Nat} {r : List Ch} : pl (k + 2) (rD r) = true := pl_map (k := k + 1) (fun _ => pl_c) r
theorem atI_n {α : Type} (xs : List α) (k : Nat) : atI xs ((k : Nat) : Int) = xs[k]? := by
  by_cases h : k < xs.length
  · rw [List.getElem?_eq_getElem h]
    exact atI_nat (List.getElem?_eq_getElem h)
  · rw [List.getElem?_eq_none (by omega)]
    unfold atI ixN
    rw [if_pos (by omega), if_neg (by omega)]
    rfl
theorem ixT (xs : List PyData) (k : Nat) : ixD (.tuple xs) (nD k) = xs[k]? := atI_n xs k
theorem ixL (xs : List PyData) (k : Nat) : ixD (.list xs) (nD k) = xs[k]? := atI_n xs k
theorem ixT0 (xs : List PyData) : ixD (.tuple xs) (.int 0) = xs[0]? := atI_n xs 0
theorem ixT1 (xs : List PyData) : ixD (.tuple xs) (.int 1) = xs[1]? := atI_n xs 1
theorem ixT2 (xs : List PyData) : ixD (.tuple xs) (.int 2) = xs[2]? := atI_n xs 2
theorem ixL0 (xs : List PyData) : ixD (.list xs) (.int 0) = xs[0]? := atI_n xs 0
/-! ### cases -/
structure Case where
  many : Nat
  row : List Nat
  puts : List (List (Option Nat))
  stays : List Nat
def caseD (c : Case) : PyData := .tuple [.tuple [nD c.many, .tuple (c.row.map nD)], .tuple (c.puts.map fun p => .tuple (p.map oD)), .tuple (c.stays.map nD)]
theorem case0 (c : Case) : ixD (caseD c) (.int 0) = some (.tuple [nD c.many, .tuple (c.row.map nD)]) := rfl
theorem case1 (c : Case) : ixD (caseD c) (.int 1) = some (.tuple (c.puts.map fun p => .tuple (p.map oD))) := rfl
theorem case2 (c : Case) : ixD (caseD c) (.int 2) = some (.tuple (c.stays.map nD)) := rfl
structure Val (c : Case) : Prop where
  m : c.many ≤ 6
  n : c.row.length ≤ 12
  row : ∀ w ∈ c.row, w < c.many
  pl : c.puts.length = c.row.length
  pw : ∀ p ∈ c.puts, p.length = c.many
  pt : ∀ p ∈ c.puts, ∀ (w x : Nat), p[w]? = some (some x) → c.row[x]? = some w
  sl : c.stays.length = c.row.length
  st : ∀ s ∈ c.stays, s ≤ 11
def step (c : Case) (x w : Nat) : Option Nat := match c.puts[x]? with
  | some p => (match p[w]? with
    | some o => o
    | none => none)
  | none => none
def ans (c : Case) (x w : Nat) : Option Nat := (step c x w).bind fun y => c.stays[y]?
section
variable {c : Case} {x w : Nat} {ch : Ch}
theorem step_at (v : Val c) (hx : x < c.row.length) (hw : w < c.many) : ∃ p, c.puts[x]? = some p ∧ p[w]? = some (step c x w) := by
  have h1 : x < c.puts.length := by rw [v.pl]; exact hx
  have h2 := List.getElem?_eq_getElem h1
  have h3 : w < (c.puts[x]).length := by rw [v.pw _ (List.getElem_mem h1)]; exact hw
  have h4 := List.getElem?_eq_getElem h3
  refine ⟨_, h2, ?_⟩
  unfold step
  rw [h2]
  simp only [h4]
theorem step_row (v : Val c) {y : Nat} (h : step c x w = some y) : c.row[y]? = some w := by
  unfold step at h
  split at h
  · rename_i p hp
    split at h
    · rename_i o ho
      subst h
      exact v.pt p (List.mem_of_getElem? hp) w y ho
    · cases h
  · cases h
theorem row_lt {y : Nat} (h : c.row[y]? = some w) : y < c.row.length := (List.getElem?_eq_some_iff.mp h).1
theorem ans_none (v : Val c) : ans c x w = none ↔ step c x w = none := by
  unfold ans
  cases h : step c x w with
  | none => simp
  | some y =>
    have := row_lt (step_row v h)
    rw [Option.bind_some, List.getElem?_eq_getElem (by rw [v.sl]; exact this)]
    simp
theorem ev_behind (v : Val c) (hx : x < c.row.length) (hw : ch.2 < c.many) : F_behind [caseD c, nD x, cD ch] = some (oD (step c x ch.2)) := by
  obtain ⟨p, h1, h2⟩ := step_at v hx hw
  simp [F_behind, b_behind, a_Seq, a_Asg, a_Ret, a_Op, a_Var, a_C, a_Call, a_Cons, a_Nil, a_Tup, a_Lst, a_Test, a_IfS, a_Next, a_And, a_Or, a_Not, a_If, a_IsN, a_NotN, a_AndV, a_OrV, a_NotV, a_Chain, a_Isi, a_Drop, a_ItT, a_ItL, a_Yes, a_Rg1, a_Rg2, a_LstRg, a_Par, a_Par3, a_From, a_Zip, a_Enum, runF, endD, startD, pgName, pgTup, pgCons, pgNil, asB, asI, asL, asT, isNoneD, cmpD, addD, subD, case0, case1, case2, ixT, ixT0, ixT1, ixT2, h1, h2]
theorem ev_law_behind (v : Val c) (hx : x < c.row.length) (hw : ch.2 < c.many) : F_law_behind [caseD c, nD x, cD ch] = some (oD (step c x ch.2)) := by
  obtain ⟨p, h1, h2⟩ := step_at v hx hw
  simp [F_law_behind, b_law_behind, a_Seq, a_Asg, a_Ret, a_Op, a_Var, a_C, a_Call, a_Cons, a_Nil, a_Tup, a_Lst, a_Test, a_IfS, a_Next, a_And, a_Or, a_Not, a_If, a_IsN, a_NotN, a_AndV, a_OrV, a_NotV, a_Chain, a_Isi, a_Drop, a_ItT, a_ItL, a_Yes, a_Rg1, a_Rg2, a_LstRg, a_Par, a_Par3, a_From, a_Zip, a_Enum, runF, endD, startD, pgName, pgTup, pgCons, pgNil, asB, asI, asL, asT, isNoneD, cmpD, addD, subD, case0, case1, case2, ixT, ixT0, ixT1, ixT2, h1, h2]
theorem ev_answer (v : Val c) (hx : x < c.row.length) (hw : ch.2 < c.many) : F_answer_of [caseD c, nD x, cD ch] = some (oD (ans c x ch.2)) := by
  have h := ev_behind v hx hw
  cases e : step c x ch.2 with
  | none => simp [F_answer_of, b_answer_of, a_Seq, a_Asg, a_Ret, a_Op, a_Var, a_C, a_Call, a_Cons, a_Nil, a_Tup, a_Lst, a_Test, a_IfS, a_Next, a_And, a_Or, a_Not, a_If, a_IsN, a_NotN, a_AndV, a_OrV, a_NotV, a_Chain, a_Isi, a_Drop, a_ItT, a_ItL, a_Yes, a_Rg1, a_Rg2, a_LstRg, a_Par, a_Par3, a_From, a_Zip, a_Enum, runF, endD, startD, pgName, pgTup, pgCons, pgNil, asB, asI, asL, asT, isNoneD, cmpD, addD, subD, h, e, ans, oD]
  | some y =>
    have hy : y < c.stays.length := by rw [v.sl]; exact row_lt (step_row v e)
    simp [F_answer_of, b_answer_of, a_Seq, a_Asg, a_Ret, a_Op, a_Var, a_C, a_Call, a_Cons, a_Nil, a_Tup, a_Lst, a_Test, a_IfS, a_Next, a_And, a_Or, a_Not, a_If, a_IsN, a_NotN, a_AndV, a_OrV, a_NotV, a_Chain, a_Isi, a_Drop, a_ItT, a_ItL, a_Yes, a_Rg1, a_Rg2, a_LstRg, a_Par, a_Par3, a_From, a_Zip, a_Enum, runF, endD, startD, pgName, pgTup, pgCons, pgNil, asB, asI, asL, asT, isNoneD, cmpD, addD, subD, h, e, ans, oD, case0, case1, case2, ixT, ixT0, ixT1, ixT2, List.getElem?_eq_getElem hy]
theorem ev_law_answer (v : Val c) (hx : x < c.row.length) (hw : ch.2 < c.many) : F_law_answer [caseD c, nD x, cD ch] = some (oD (ans c x ch.2)) := by
  have h := ev_law_behind v hx hw
  cases e : step c x ch.2 with
  | none => simp [F_law_answer, b_law_answer, a_Seq, a_Asg, a_Ret, a_Op, a_Var, a_C, a_Call, a_Cons, a_Nil, a_Tup, a_Lst, a_Test, a_IfS, a_Next, a_And, a_Or, a_Not, a_If, a_IsN, a_NotN, a_AndV, a_OrV, a_NotV, a_Chain, a_Isi, a_Drop, a_ItT, a_ItL, a_Yes, a_Rg1, a_Rg2, a_LstRg, a_Par, a_Par3, a_From, a_Zip, a_Enum, runF, endD, startD, pgName, pgTup, pgCons, pgNil, asB, asI, asL, asT, isNoneD, cmpD, addD, subD, h, e, ans, oD]
  | some y =>
    have hy : y < c.stays.length := by rw [v.sl]; exact row_lt (step_row v e)
    simp [F_law_answer, b_law_answer, a_Seq, a_Asg, a_Ret, a_Op, a_Var, a_C, a_Call, a_Cons, a_Nil, a_Tup, a_Lst, a_Test, a_IfS, a_Next, a_And, a_Or, a_Not, a_If, a_IsN, a_NotN, a_AndV, a_OrV, a_NotV, a_Chain, a_Isi, a_Drop, a_ItT, a_ItL, a_Yes, a_Rg1, a_Rg2, a_LstRg, a_Par, a_Par3, a_From, a_Zip, a_Enum, runF, endD, startD, pgName, pgTup, pgCons, pgNil, asB, asI, asL, asT, isNoneD, cmpD, addD, subD, h, e, ans, oD, case0, case1, case2, ixT, ixT0, ixT1, ixT2, List.getElem?_eq_getElem hy]
end
end DL
/-! P2: rules to evaluate with; what is valid passes. -/
namespace DL
open PySem L2
/-! ### comprehensions, loops -/
section
variable {α β : Type} {pg : PGd} {tt : FTt} {te : FM} {vs : List Nat} {ρ : DEnv}
theorem lc_eq (en out : α → PyData) (p : α → Bool) : ∀ (xs : List α), (∀ x ∈ xs, ∃ ρ', pg (en x) (wipeD ρ vs) = some ρ' ∧ tt ρ' = some (p x) ∧ (p x = true → te ρ' = some (out x))) → lcF pg tt te vs (xs.map en) ρ = some ((xs.filter p).map out)
  | [], _ => rfl
  | x :: xs, h => by
    obtain ⟨ρ', h1, h2, h3⟩ := h x (List.mem_cons_self ..)
    have ih := lc_eq en out p xs fun y hy => h y (List.mem_cons_of_mem _ hy)
    show (pg (en x) (wipeD ρ vs)).bind _ = _
    rw [h1, Option.bind_some, h2, Option.bind_some, List.filter_cons]
    cases hp : p x with
    | true =>
      rw [if_pos rfl, h3 hp, Option.bind_some, ih, if_pos rfl]
      rfl
    | false =>
      rw [if_neg Bool.false_ne_true, ih, if_neg Bool.false_ne_true]
theorem fLc_eq {fi : FAa} (en out : α → PyData) (p : α → Bool) {xs : List α} (hf : fi ρ = some (xs.map en)) (hl : xs.length ≤ 1000000) (h : ∀ x ∈ xs, ∃ ρ', pg (en x) (wipeD ρ vs) = some ρ' ∧ tt ρ' = some (p x) ∧ (p x = true → te ρ' = some (out x))) :
    fLc fi pg tt te vs ρ = some (.list ((xs.filter p).map out)) := by
  show (fi ρ).bind _ = _
  rw [hf, Option.bind_some, if_pos (by rw [List.length_map]; exact hl), lc_eq en out p xs h]
  rfl
theorem fLc_all {fi : FAa} (en out : α → PyData) {xs : List α} (hf : fi ρ = some (xs.map en)) (hl : xs.length ≤ 1000000) (h : ∀ x ∈ xs, ∃ ρ', pg (en x) (wipeD ρ vs) = some ρ' ∧ te ρ' = some (out x)) :
    fLc fi pg fYes te vs ρ = some (.list (xs.map out)) := by
  have z := fLc_eq (tt := fYes) en out (fun _ => true) hf hl fun x hx => let ⟨ρ', h1, h2⟩ := h x hx; ⟨ρ', h1, rfl, fun _ => h2⟩
  rw [List.filter_eq_self.mpr (fun _ _ => rfl)] at z
  exact z
/-- a loop that goes on to its end -/
theorem for_eq {body : FSt} (en : α → PyData) (R : β → DEnv → Prop) (stp : β → α → β) : ∀ (xs : List α) (b : β) (ρ : DEnv), (∀ b x ρ, x ∈ xs → R b ρ → ∃ ρ1 ρ2, pg (en x) ρ = some ρ1 ∧ body ρ1 = some (.nx ρ2) ∧ R (stp b x) ρ2) → R b ρ →
    ∃ ρ', forF pg body (xs.map en) ρ = some (.nx ρ') ∧ R (xs.foldl stp b) ρ'
  | [], b, ρ, _, r => ⟨ρ, rfl, r⟩
  | x :: xs, b, ρ, h, r => by
    obtain ⟨ρ1, ρ2, h1, h2, r2⟩ := h b x ρ (List.mem_cons_self ..) r
    obtain ⟨ρ', h3, r3⟩ := for_eq en R stp xs (stp b x) ρ2 (fun b y ρ hy => h b y ρ (List.mem_cons_of_mem _ hy)) r2
    refine ⟨ρ', ?_, r3⟩
    show (pg (en x) ρ).bind _ = _
    rw [h1, Option.bind_some, h2, Option.bind_some]
    exact h3
/-- a loop that may give back -/
theorem for_ret {body : FSt} (en : α → PyData) (R : DEnv → Prop) (bad : α → Bool) : ∀ (xs : List α) (ρ : DEnv), (∀ x ρ, x ∈ xs → R ρ → ∃ ρ1, pg (en x) ρ = some ρ1 ∧ ((bad x = false ∧ ∃ ρ2, body ρ1 = some (.nx ρ2) ∧ R ρ2) ∨ (bad x = true ∧ ∃ y, body ρ1 = some (.rt y) ∧ y ≠ .none))) → R ρ →
    (xs.all (fun x => !bad x) = true ∧ ∃ ρ', forF pg body (xs.map en) ρ = some (.nx ρ') ∧ R ρ') ∨ (xs.all (fun x => !bad x) = false ∧ ∃ y, forF pg body (xs.map en) ρ = some (.rt y) ∧ y ≠ .none)
  | [], ρ, _, r => .inl ⟨rfl, ρ, rfl, r⟩
  | x :: xs, ρ, h, r => by
    obtain ⟨ρ1, h1, h2⟩ := h x ρ (List.mem_cons_self ..) r
    have e : forF pg body ((x :: xs).map en) ρ = (body ρ1).bind fun o => match o with
        | .nx ρ2 => forF pg body (xs.map en) ρ2
        | .ct ρ2 => forF pg body (xs.map en) ρ2
        | .bk ρ2 => some (.nx ρ2)
        | .rt x => some (.rt x) := by
      show (pg (en x) ρ).bind _ = _
      rw [h1]
      rfl
    rw [e, List.all_cons]
    rcases h2 with ⟨hb, ρ2, h2, r2⟩ | ⟨hb, y, h2, hy⟩
    · rw [h2, hb, Option.bind_some, Bool.not_false, Bool.true_and]
      exact for_ret en R bad xs ρ2 (fun y ρ hy => h y ρ (List.mem_cons_of_mem _ hy)) r2
    · rw [h2, hb]
      exact .inr ⟨rfl, y, rfl, hy⟩
end
theorem range0 (n : Nat) : rangeD 0 (n : Int) = (List.range n).map nD := by
  unfold rangeD
  rw [Int.sub_zero, Int.toNat_natCast]
  refine List.map_congr_left fun k _ => ?_
  rw [Int.zero_add]
theorem rangeN (a b : Nat) : rangeD (a : Int) (b : Int) = (List.range' a (b - a)).map nD := by
  unfold rangeD
  rw [show ((b : Int) - a).toNat = b - a by omega, List.range'_eq_map_range, List.map_map]
  refine List.map_congr_left fun k _ => ?_
  show PyData.int _ = PyData.int _
  rw [Int.natCast_add]
theorem rngOk_n {n : Nat} (h : n ≤ 1000) : rngOk (n : Int) := ⟨by omega, by omega⟩
theorem bools_map {α : Type} (f : α → Bool) : ∀ xs : List α, boolsOf (xs.map fun x => .bool (f x)) = some (xs.map f)
  | [] => rfl
  | x :: xs => by
    show (boolsOf (xs.map fun x => .bool (f x))).map _ = _
    rw [bools_map f xs]
    rfl
theorem allF_map {α : Type} (f : α → Bool) (xs : List α) : allF [.list (xs.map fun x => .bool (f x))] = some (.bool (xs.all f)) := by
  show (boolsOf _).map _ = _
  rw [bools_map, Option.map_some, List.all_map]
  rfl
theorem anyF_map {α : Type} (f : α → Bool) (xs : List α) : anyF [.list (xs.map fun x => .bool (f x))] = some (.bool (xs.any f)) := by
  show (boolsOf _).map _ = _
  rw [bools_map, Option.map_some, List.any_map]
  rfl
theorem lenT (xs : List PyData) : lenF [.tuple xs] = some (nD xs.length) := rfl
theorem lenL (xs : List PyData) : lenF [.list xs] = some (nD xs.length) := rfl
/-! ### what is valid passes -/
theorem ev_whole (v lo hi : Int) : F_is_whole [.int v, .int lo, .int hi] = some (.bool (decide (lo ≤ v) && decide (v ≤ hi))) := by
  by_cases h : lo ≤ v
  · simp [F_is_whole, b_is_whole, a_Seq, a_Asg, a_Ret, a_Op, a_Var, a_C, a_Call, a_Cons, a_Nil, a_Tup, a_Lst, a_Test, a_IfS, a_Next, a_And, a_Or, a_Not, a_If, a_IsN, a_NotN, a_AndV, a_OrV, a_NotV, a_Chain, a_Isi, a_Drop, a_ItT, a_ItL, a_Yes, a_Rg1, a_Rg2, a_LstRg, a_Par, a_Par3, a_From, a_Zip, a_Enum, runF, endD, startD, pgName, pgTup, pgCons, pgNil, asB, asI, asL, asT, isNoneD, cmpD, addD, subD, isIntD, isBoolD, h]
  · simp [F_is_whole, b_is_whole, a_Seq, a_Asg, a_Ret, a_Op, a_Var, a_C, a_Call, a_Cons, a_Nil, a_Tup, a_Lst, a_Test, a_IfS, a_Next, a_And, a_Or, a_Not, a_If, a_IsN, a_NotN, a_AndV, a_OrV, a_NotV, a_Chain, a_Isi, a_Drop, a_ItT, a_ItL, a_Yes, a_Rg1, a_Rg2, a_LstRg, a_Par, a_Par3, a_From, a_Zip, a_Enum, runF, endD, startD, pgName, pgTup, pgCons, pgNil, asB, asI, asL, asT, isNoneD, cmpD, addD, subD, isIntD, isBoolD, h]
theorem ev_row_of (xs : List PyData) (lo hi : Int) : F_is_row_of [.tuple xs, .int lo, .int hi] = some (.bool (decide (lo ≤ (xs.length : Int)) && decide ((xs.length : Int) ≤ hi))) := by
  by_cases h : lo ≤ (xs.length : Int)
  · simp [F_is_row_of, b_is_row_of, a_Seq, a_Asg, a_Ret, a_Op, a_Var, a_C, a_Call, a_Cons, a_Nil, a_Tup, a_Lst, a_Test, a_IfS, a_Next, a_And, a_Or, a_Not, a_If, a_IsN, a_NotN, a_AndV, a_OrV, a_NotV, a_Chain, a_Isi, a_Drop, a_ItT, a_ItL, a_Yes, a_Rg1, a_Rg2, a_LstRg, a_Par, a_Par3, a_From, a_Zip, a_Enum, runF, endD, startD, pgName, pgTup, pgCons, pgNil, asB, asI, asL, asT, isNoneD, cmpD, addD, subD, isTupD, lenT, h]
  · simp [F_is_row_of, b_is_row_of, a_Seq, a_Asg, a_Ret, a_Op, a_Var, a_C, a_Call, a_Cons, a_Nil, a_Tup, a_Lst, a_Test, a_IfS, a_Next, a_And, a_Or, a_Not, a_If, a_IsN, a_NotN, a_AndV, a_OrV, a_NotV, a_Chain, a_Isi, a_Drop, a_ItT, a_ItL, a_Yes, a_Rg1, a_Rg2, a_LstRg, a_Par, a_Par3, a_From, a_Zip, a_Enum, runF, endD, startD, pgName, pgTup, pgCons, pgNil, asB, asI, asL, asT, isNoneD, cmpD, addD, subD, isTupD, lenT, h]
theorem ev_numbers {ns : List Nat} {n g : Nat} (hl : ns.length = n) (hn : n ≤ 1000) (hg : ∀ k ∈ ns, k ≤ g) : F_fits_numbers [.tuple (ns.map nD), nD n, nD g] = some (.bool true) := by
  have h : fLc (fItT (fVar 0)) (pgName 3) fYes (fCall F_is_whole (fCons (fVar 3) (fCons (fC (.int 0)) (fCons (fVar 2) fNil)))) [3] [some (.d (.tuple (ns.map nD))), some (.d (nD n)), some (.d (nD g)), none] = some (.list (ns.map fun _ => .bool true)) :=
    fLc_all nD _ rfl (by omega) fun k hk => ⟨_, rfl, by
      have := hg k hk
      have e : F_is_whole [nD k, .int 0, nD g] = some (.bool true) := by
        rw [ev_whole]
        simp
        omega
      simp [a_Seq, a_Asg, a_Ret, a_Op, a_Var, a_C, a_Call, a_Cons, a_Nil, a_Tup, a_Lst, a_Test, a_IfS, a_Next, a_And, a_Or, a_Not, a_If, a_IsN, a_NotN, a_AndV, a_OrV, a_NotV, a_Chain, a_Isi, a_Drop, a_ItT, a_ItL, a_Yes, a_Rg1, a_Rg2, a_LstRg, a_Par, a_Par3, a_From, a_Zip, a_Enum, runF, endD, startD, pgName, pgTup, pgCons, pgNil, asB, asI, asL, asT, isNoneD, cmpD, addD, subD, wipeD, e]⟩
  simp [F_fits_numbers, b_fits_numbers, a_Seq, a_Asg, a_Ret, a_Op, a_Var, a_C, a_Call, a_Cons, a_Nil, a_Tup, a_Lst, a_Test, a_IfS, a_Next, a_And, a_Or, a_Not, a_If, a_IsN, a_NotN, a_AndV, a_OrV, a_NotV, a_Chain, a_Isi, a_Drop, a_ItT, a_ItL, a_Yes, a_Rg1, a_Rg2, a_LstRg, a_Par, a_Par3, a_From, a_Zip, a_Enum, runF, endD, startD, pgName, pgTup, pgCons, pgNil, asB, asI, asL, asT, isNoneD, cmpD, addD, subD, ev_row_of, hl, h, allF_map]
theorem ev_showing {m : Nat} {row : List Nat} (hm : m ≤ 6) (hr : row.length ≤ 12) (h : ∀ w ∈ row, w < m) : F_fits_showing [.tuple [nD m, .tuple (row.map nD)]] = some (.bool true) := by
  have hl : fLc (fItT (fOp ixD (fVar 0) (fC (.int 1)))) (pgName 1) fYes (fCall F_is_whole (fCons (fVar 1) (fCons (fC (.int 0)) (fCons (fOp subD (fOp ixD (fVar 0) (fC (.int 0))) (fC (.int 1))) fNil)))) [1] [some (.d (.tuple [nD m, .tuple (row.map nD)])), none] =
      some (.list (row.map fun _ => .bool true)) :=
    fLc_all nD _ rfl (by omega) fun k hk => ⟨_, rfl, by
      have := h k hk
      have e : F_is_whole [nD k, .int 0, .int ((m : Int) - 1)] = some (.bool true) := by
        rw [ev_whole]
        simp
        omega
      simp [a_Seq, a_Asg, a_Ret, a_Op, a_Var, a_C, a_Call, a_Cons, a_Nil, a_Tup, a_Lst, a_Test, a_IfS, a_Next, a_And, a_Or, a_Not, a_If, a_IsN, a_NotN, a_AndV, a_OrV, a_NotV, a_Chain, a_Isi, a_Drop, a_ItT, a_ItL, a_Yes, a_Rg1, a_Rg2, a_LstRg, a_Par, a_Par3, a_From, a_Zip, a_Enum, runF, endD, startD, pgName, pgTup, pgCons, pgNil, asB, asI, asL, asT, isNoneD, cmpD, addD, subD, wipeD, e, ixT0]⟩
  have e1 : F_is_row_of [.tuple [nD m, .tuple (row.map nD)], .int 2, .int 2] = some (.bool true) := ev_row_of _ 2 2
  have e2 : F_is_whole [nD m, .int 0, .int 6] = some (.bool true) := by
    rw [ev_whole]
    simp
    omega
  have e3 : F_is_row_of [.tuple (row.map nD), .int 0, .int 12] = some (.bool true) := by
    rw [ev_row_of]
    simp
    omega
  simp [F_fits_showing, b_fits_showing, a_Seq, a_Asg, a_Ret, a_Op, a_Var, a_C, a_Call, a_Cons, a_Nil, a_Tup, a_Lst, a_Test, a_IfS, a_Next, a_And, a_Or, a_Not, a_If, a_IsN, a_NotN, a_AndV, a_OrV, a_NotV, a_Chain, a_Isi, a_Drop, a_ItT, a_ItL, a_Yes, a_Rg1, a_Rg2, a_LstRg, a_Par, a_Par3, a_From, a_Zip, a_Enum, runF, endD, startD, pgName, pgTup, pgCons, pgNil, asB, asI, asL, asT, isNoneD, cmpD, addD, subD, e1, e2, e3, hl, allF_map, ixT0, ixT1]
theorem ev_put {row : List Nat} {w : Nat} {o : Option Nat} (h : ∀ x, o = some x → row[x]? = some w) : F_fits_put [.tuple (row.map nD), nD w, oD o] = some (.bool true) := by
  cases o with
  | none => simp [F_fits_put, b_fits_put, a_Seq, a_Asg, a_Ret, a_Op, a_Var, a_C, a_Call, a_Cons, a_Nil, a_Tup, a_Lst, a_Test, a_IfS, a_Next, a_And, a_Or, a_Not, a_If, a_IsN, a_NotN, a_AndV, a_OrV, a_NotV, a_Chain, a_Isi, a_Drop, a_ItT, a_ItL, a_Yes, a_Rg1, a_Rg2, a_LstRg, a_Par, a_Par3, a_From, a_Zip, a_Enum, runF, endD, startD, pgName, pgTup, pgCons, pgNil, asB, asI, asL, asT, isNoneD, cmpD, addD, subD, oD]
  | some x =>
    have hx := h x rfl
    have hl := (List.getElem?_eq_some_iff.mp hx).1
    have e : eqD (nD w) (nD w) = some (.bool true) := eqD_pl (n := 0) (p := True) (by decide) pl_n pl_n (iff_of_true rfl True.intro)
    have e2 : F_is_whole [nD x, .int 0, .int ((row.length : Int) - 1)] = some (.bool true) := by
      rw [ev_whole]
      simp
      omega
    simp [F_fits_put, b_fits_put, a_Seq, a_Asg, a_Ret, a_Op, a_Var, a_C, a_Call, a_Cons, a_Nil, a_Tup, a_Lst, a_Test, a_IfS, a_Next, a_And, a_Or, a_Not, a_If, a_IsN, a_NotN, a_AndV, a_OrV, a_NotV, a_Chain, a_Isi, a_Drop, a_ItT, a_ItL, a_Yes, a_Rg1, a_Rg2, a_LstRg, a_Par, a_Par3, a_From, a_Zip, a_Enum, runF, endD, startD, pgName, pgTup, pgCons, pgNil, asB, asI, asL, asT, isNoneD, cmpD, addD, subD, oD, lenT, e2, ixT, hx, e]
theorem enum_map {α : Type} (f : α → PyData) (xs : List α) : enumD (xs.map f) = xs.zipIdx.map fun p => .tuple [nD p.2, f p.1] := by
  unfold enumD
  rw [List.zipIdx_map, List.map_map]
  rfl
theorem ev_case {c : Case} (v : Val c) : F_fits_case [caseD c] = some (.bool true) := by
  have e1 : F_is_row_of [caseD c, .int 3, .int 3] = some (.bool true) := ev_row_of _ 3 3
  have e2 := ev_showing v.m v.n v.row
  have e3 : F_is_row_of [.tuple (c.puts.map fun p => .tuple (p.map oD)), .int (c.row.length : Int), .int (c.row.length : Int)] = some (.bool true) := by
    rw [ev_row_of]
    simp [v.pl]
  have hl : fLc (fItT (fOp ixD (fVar 0) (fC (.int 1)))) (pgName 3) fYes (fCall F_is_row_of (fCons (fVar 3) (fCons (fVar 1) (fCons (fVar 1) fNil)))) [3] [some (.d (caseD c)), some (.d (nD c.many)), some (.d (.tuple (c.row.map nD))), none, none, none] =
      some (.list (c.puts.map fun _ => .bool true)) :=
    fLc_all (fun p => .tuple (p.map oD)) _ rfl (by rw [v.pl]; have := v.n; omega) fun p hp => ⟨_, rfl, by
      have := v.pw p hp
      simp [a_Seq, a_Asg, a_Ret, a_Op, a_Var, a_C, a_Call, a_Cons, a_Nil, a_Tup, a_Lst, a_Test, a_IfS, a_Next, a_And, a_Or, a_Not, a_If, a_IsN, a_NotN, a_AndV, a_OrV, a_NotV, a_Chain, a_Isi, a_Drop, a_ItT, a_ItL, a_Yes, a_Rg1, a_Rg2, a_LstRg, a_Par, a_Par3, a_From, a_Zip, a_Enum, runF, endD, startD, pgName, pgTup, pgCons, pgNil, asB, asI, asL, asT, isNoneD, cmpD, addD, subD, wipeD, ev_row_of, this]⟩
  have hf : ∃ a, fFor (fItT (fOp ixD (fVar 0) (fC (.int 1)))) (pgName 3) (fIfS (fNot (fTest (fCall allF (fCons (fLc (fEnum (fVar 3)) (pgTup (pgCons (pgName 4) (pgCons (pgName 5) (pgNil)))) (fYes) (fCall F_fits_put (fCons (fVar 2) (fCons (fVar 4) (fCons (fVar 5) (fNil))))) [4, 5]) (fNil))))) (fRet (fC (.bool false))) (fNext))
      [some (.d (caseD c)), some (.d (nD c.many)), some (.d (.tuple (c.row.map nD))), none, none, none] = some (.nx [some (.d (caseD c)), some (.d (nD c.many)), some (.d (.tuple (c.row.map nD))), a, none, none]) := by
    have hb : ∀ (a : Option Slot) (p : List (Option Nat)), p ∈ c.puts → (fIfS (fNot (fTest (fCall allF (fCons (fLc (fEnum (fVar 3)) (pgTup (pgCons (pgName 4) (pgCons (pgName 5) (pgNil)))) (fYes) (fCall F_fits_put (fCons (fVar 2) (fCons (fVar 4) (fCons (fVar 5) (fNil))))) [4, 5]) (fNil))))) (fRet (fC (.bool false))) (fNext)) [some (.d (caseD c)), some (.d (nD c.many)), some (.d (.tuple (c.row.map nD))), some (.d (.tuple (p.map oD))), none, none] = some (.nx [some (.d (caseD c)), some (.d (nD c.many)), some (.d (.tuple (c.row.map nD))), some (.d (.tuple (p.map oD))), none, none]) := by
      intro a p hp
      have hq : fLc (fEnum (fVar 3)) (pgTup (pgCons (pgName 4) (pgCons (pgName 5) (pgNil)))) (fYes) (fCall F_fits_put (fCons (fVar 2) (fCons (fVar 4) (fCons (fVar 5) (fNil))))) [4, 5] [some (.d (caseD c)), some (.d (nD c.many)), some (.d (.tuple (c.row.map nD))), some (.d (.tuple (p.map oD))), none, none] = some (.list (p.zipIdx.map fun _ => .bool true)) := by
        refine fLc_all (fun q : Option Nat × Nat => .tuple [nD q.2, oD q.1]) _ ?_ ?_ fun q hq => ⟨_, rfl, ?_⟩
        · rw [← enum_map]
          rfl
        · rw [List.length_zipIdx, v.pw p hp]
          have := v.m
          omega
        · have hq2 : p[q.2]? = some q.1 := by
            obtain ⟨i, hi⟩ := List.mem_iff_getElem?.mp hq
            rw [List.getElem?_zipIdx] at hi
            obtain ⟨z, hz, e⟩ := Option.map_eq_some_iff.mp hi
            subst e
            rw [Nat.zero_add]
            exact hz
          have := ev_put (row := c.row) (w := q.2) (o := q.1) fun x e => v.pt p hp q.2 x (by rw [hq2, e])
          simp [a_Seq, a_Asg, a_Ret, a_Op, a_Var, a_C, a_Call, a_Cons, a_Nil, a_Tup, a_Lst, a_Test, a_IfS, a_Next, a_And, a_Or, a_Not, a_If, a_IsN, a_NotN, a_AndV, a_OrV, a_NotV, a_Chain, a_Isi, a_Drop, a_ItT, a_ItL, a_Yes, a_Rg1, a_Rg2, a_LstRg, a_Par, a_Par3, a_From, a_Zip, a_Enum, runF, endD, startD, pgName, pgTup, pgCons, pgNil, asB, asI, asL, asT, isNoneD, cmpD, addD, subD, wipeD, this]
      simp [a_Seq, a_Asg, a_Ret, a_Op, a_Var, a_C, a_Call, a_Cons, a_Nil, a_Tup, a_Lst, a_Test, a_IfS, a_Next, a_And, a_Or, a_Not, a_If, a_IsN, a_NotN, a_AndV, a_OrV, a_NotV, a_Chain, a_Isi, a_Drop, a_ItT, a_ItL, a_Yes, a_Rg1, a_Rg2, a_LstRg, a_Par, a_Par3, a_From, a_Zip, a_Enum, runF, endD, startD, pgName, pgTup, pgCons, pgNil, asB, asI, asL, asT, isNoneD, cmpD, addD, subD, hq, allF_map]
    obtain ⟨ρ', h1, a, h2⟩ := for_eq (pg := pgName 3) (body := (fIfS (fNot (fTest (fCall allF (fCons (fLc (fEnum (fVar 3)) (pgTup (pgCons (pgName 4) (pgCons (pgName 5) (pgNil)))) (fYes) (fCall F_fits_put (fCons (fVar 2) (fCons (fVar 4) (fCons (fVar 5) (fNil))))) [4, 5]) (fNil))))) (fRet (fC (.bool false))) (fNext)))
      (fun p : List (Option Nat) => .tuple (p.map oD)) (fun (_ : Unit) ρ => ∃ a, ρ = [some (.d (caseD c)), some (.d (nD c.many)), some (.d (.tuple (c.row.map nD))), a, none, none]) (fun b _ => b) c.puts () [some (.d (caseD c)), some (.d (nD c.many)), some (.d (.tuple (c.row.map nD))), none, none, none] (fun _ p ρ hp he => by
        obtain ⟨a, e⟩ := he
        subst e
        exact ⟨_, _, rfl, hb a p hp, some (.d (.tuple (p.map oD))), rfl⟩) ⟨none, rfl⟩
    subst h2
    exact ⟨a, h1⟩
  obtain ⟨a, hf⟩ := hf
  have e4 : F_fits_numbers [.tuple (c.stays.map nD), .int (c.row.length : Int), .int 11] = some (.bool true) := ev_numbers v.sl (by have := v.n; omega) v.st
  simp [F_fits_case, b_fits_case, a_Seq, a_Asg, a_Ret, a_Op, a_Var, a_C, a_Call, a_Cons, a_Nil, a_Tup, a_Lst, a_Test, a_IfS, a_Next, a_And, a_Or, a_Not, a_If, a_IsN, a_NotN, a_AndV, a_OrV, a_NotV, a_Chain, a_Isi, a_Drop, a_ItT, a_ItL, a_Yes, a_Rg1, a_Rg2, a_LstRg, a_Par, a_Par3, a_From, a_Zip, a_Enum, runF, endD, startD, pgName, pgTup, pgCons, pgNil, asB, asI, asL, asT, isNoneD, cmpD, addD, subD, e1, e2, e3, hl, hf, e4, case0, case1, case2, lenT, allF_map, v.sl]
theorem ev_need_case {c : Case} (v : Val c) : F_need_case [caseD c] = some .none := by
  simp [F_need_case, b_need_case, a_Seq, a_Asg, a_Ret, a_Op, a_Var, a_C, a_Call, a_Cons, a_Nil, a_Tup, a_Lst, a_Test, a_IfS, a_Next, a_And, a_Or, a_Not, a_If, a_IsN, a_NotN, a_AndV, a_OrV, a_NotV, a_Chain, a_Isi, a_Drop, a_ItT, a_ItL, a_Yes, a_Rg1, a_Rg2, a_LstRg, a_Par, a_Par3, a_From, a_Zip, a_Enum, runF, endD, startD, pgName, pgTup, pgCons, pgNil, asB, asI, asL, asT, isNoneD, cmpD, addD, subD, ev_case v]
def VKeys (c : Case) (ks : List Nat) : Prop := ks.length = c.row.length ∧ ∀ k ∈ ks, k ≤ 11
theorem ev_need_keys {c : Case} (v : Val c) {ks : List Nat} (h : VKeys c ks) : F_need_keys [caseD c, .tuple (ks.map nD)] = some .none := by
  have e4 : F_fits_numbers [.tuple (ks.map nD), .int (c.row.length : Int), .int 11] = some (.bool true) := ev_numbers h.1 (by have := v.n; omega) h.2
  simp [F_need_keys, b_need_keys, a_Seq, a_Asg, a_Ret, a_Op, a_Var, a_C, a_Call, a_Cons, a_Nil, a_Tup, a_Lst, a_Test, a_IfS, a_Next, a_And, a_Or, a_Not, a_If, a_IsN, a_NotN, a_AndV, a_OrV, a_NotV, a_Chain, a_Isi, a_Drop, a_ItT, a_ItL, a_Yes, a_Rg1, a_Rg2, a_LstRg, a_Par, a_Par3, a_From, a_Zip, a_Enum, runF, endD, startD, pgName, pgTup, pgCons, pgNil, asB, asI, asL, asT, isNoneD, cmpD, addD, subD, case0, ixT1, lenT, e4]
end DL
/-! P3: changes in order; pairs of keys alike; lots. -/
namespace DL
open PySem L2
def chB (a b : Ch) : Bool := decide (a.1 < b.1) || (decide (a.1 = b.1) && decide (a.2 < b.2))
structure VLets (c : Case) (l : List Ch) : Prop where
  lt : ∀ ch ∈ l, ch.1 < c.many ∧ ch.2 < c.many
  st : l.Pairwise fun a b => chB a b = true
theorem ltD_c (a b : Ch) : ltD (cD a) (cD b) = some (.bool (chB a b)) := by
  show some (PyData.bool (HT.lexLt [(a.1 : Int), (a.2 : Int)] [(b.1 : Int), (b.2 : Int)])) = _
  rw [HT.lexLt_cons]
  unfold chB
  by_cases h : a.1 = b.1
  · rw [if_pos (by rw [h]), HT.lexLt_cons]
    by_cases h2 : a.2 = b.2
    · rw [if_pos (by rw [h2]), HT.lexLt_nil_nil]
      simp [h, h2]
    · rw [if_neg (by omega)]
      simp [h]
  · rw [if_neg (by omega)]
    simp [h]
theorem chB_ne {a b : Ch} (h : chB a b = true) : a ≠ b := by
  intro e
  subst e
  unfold chB at h
  simp at h
theorem VLets.nodup {c : Case} {l : List Ch} (h : VLets c l) : l.Nodup := h.st.imp fun h => chB_ne h
theorem VLets.sub {c : Case} {l m : List Ch} (h : VLets c l) (s : m.Sublist l) : VLets c m := ⟨fun ch hc => h.lt ch (s.subset hc), h.st.sublist s⟩
theorem cut1 (xs : List PyData) : cutD xs (some 1) none = xs.drop 1 := by
  unfold cutD
  rw [show HT.sIx xs.length 0 (some 1) = min 1 xs.length from HT.sIx_nat _ _ 1, show HT.sIx xs.length xs.length none = xs.length from rfl]
  cases xs with
  | nil => rfl
  | cons x r =>
    rw [show min 1 (x :: r).length = 1 by rw [List.length_cons]; omega]
    show (r.take _) = r
    rw [List.length_cons, Nat.add_sub_cancel, List.take_length]
theorem zip_pairs {l : List Ch} (h : l.Pairwise fun a b => chB a b = true) : ∀ p ∈ l.zip (l.drop 1), chB p.1 p.2 = true := by
  intro p hp
  obtain ⟨i, hi⟩ := List.mem_iff_getElem?.mp hp
  obtain ⟨h1, h2⟩ := List.getElem?_zip_eq_some.mp hi
  rw [List.getElem?_drop] at h2
  obtain ⟨l1, e1⟩ := List.getElem?_eq_some_iff.mp h1
  obtain ⟨l2, e2⟩ := List.getElem?_eq_some_iff.mp h2
  rw [← e1, ← e2]
  exact List.pairwise_iff_getElem.mp h i (1 + i) l1 l2 (by omega)
theorem ev_lets {c : Case} {l : List Ch} (v : Val c) (h : VLets c l) (hl : l.length ≤ 1000) : F_fits_lets [caseD c, rD l] = some (.bool true) := by
  have z1 : ∀ b : PyData, fLc (fItT (fVar 1)) (pgName 3) (fYes) (fCall F_is_row_of (fCons (fVar 3) (fCons (fC (.int 2)) (fCons (fC (.int 2)) (fNil))))) [3] [some (.d (caseD c)), some (.d (rD l)), some (.d b), none, none, none] = some (.list (l.map fun _ => .bool true)) := fun b =>
    fLc_all cD _ rfl (by omega) fun k hk => ⟨_, rfl, by simp [a_Seq, a_Asg, a_Ret, a_Op, a_Var, a_C, a_Call, a_Cons, a_Nil, a_Tup, a_Lst, a_Test, a_IfS, a_Next, a_And, a_Or, a_Not, a_If, a_IsN, a_NotN, a_AndV, a_OrV, a_NotV, a_Chain, a_Isi, a_Drop, a_ItT, a_ItL, a_Yes, a_Rg1, a_Rg2, a_LstRg, a_Par, a_Par3, a_From, a_Zip, a_Enum, runF, endD, startD, pgName, pgTup, pgCons, pgNil, asB, asI, asL, asT, isNoneD, cmpD, addD, subD, wipeD, ev_row_of]⟩
  have z2 : fLc (fItT (fVar 1)) (pgName 3) (fYes) (fAndV (fCall F_is_whole (fCons (fOp ixD (fVar 3) (fC (.int 0))) (fCons (fC (.int 0)) (fCons (fVar 2) (fNil))))) (fCall F_is_whole (fCons (fOp ixD (fVar 3) (fC (.int 1))) (fCons (fC (.int 0)) (fCons (fVar 2) (fNil)))))) [3] [some (.d (caseD c)), some (.d (rD l)), some (.d (.int ((c.many : Int) - 1))), none, none, none] = some (.list (l.map fun _ => .bool true)) :=
    fLc_all cD _ rfl (by omega) fun k hk => ⟨_, rfl, by
      have := h.lt k hk
      have e1 : F_is_whole [nD k.1, .int 0, .int ((c.many : Int) - 1)] = some (.bool true) := by
        rw [ev_whole]
        simp
        omega
      have e2 : F_is_whole [nD k.2, .int 0, .int ((c.many : Int) - 1)] = some (.bool true) := by
        rw [ev_whole]
        simp
        omega
      simp [a_Seq, a_Asg, a_Ret, a_Op, a_Var, a_C, a_Call, a_Cons, a_Nil, a_Tup, a_Lst, a_Test, a_IfS, a_Next, a_And, a_Or, a_Not, a_If, a_IsN, a_NotN, a_AndV, a_OrV, a_NotV, a_Chain, a_Isi, a_Drop, a_ItT, a_ItL, a_Yes, a_Rg1, a_Rg2, a_LstRg, a_Par, a_Par3, a_From, a_Zip, a_Enum, runF, endD, startD, pgName, pgTup, pgCons, pgNil, asB, asI, asL, asT, isNoneD, cmpD, addD, subD, wipeD, ixT0, ixT1, e1, e2]⟩
  have z3 : fLc (fZip (fVar 1) (fFrom (fVar 1) (fC (.int 1)))) (pgTup (pgCons (pgName 4) (pgCons (pgName 5) (pgNil)))) (fYes) (fOp (ltD) (fVar 4) (fVar 5)) [4, 5] [some (.d (caseD c)), some (.d (rD l)), some (.d (.int ((c.many : Int) - 1))), none, none, none] = some (.list ((l.zip (l.drop 1)).map fun _ => .bool true)) := by
    refine fLc_all (fun p : Ch × Ch => .tuple [cD p.1, cD p.2]) _ ?_ ?_ fun p hp => ⟨_, rfl, ?_⟩
    · simp [a_Seq, a_Asg, a_Ret, a_Op, a_Var, a_C, a_Call, a_Cons, a_Nil, a_Tup, a_Lst, a_Test, a_IfS, a_Next, a_And, a_Or, a_Not, a_If, a_IsN, a_NotN, a_AndV, a_OrV, a_NotV, a_Chain, a_Isi, a_Drop, a_ItT, a_ItL, a_Yes, a_Rg1, a_Rg2, a_LstRg, a_Par, a_Par3, a_From, a_Zip, a_Enum, runF, endD, startD, pgName, pgTup, pgCons, pgNil, asB, asI, asL, asT, isNoneD, cmpD, addD, subD, slD, cut1]
      rw [← List.map_tail, List.zip_map, List.map_map]
      rfl
    · rw [List.length_zip]
      omega
    · simp [a_Seq, a_Asg, a_Ret, a_Op, a_Var, a_C, a_Call, a_Cons, a_Nil, a_Tup, a_Lst, a_Test, a_IfS, a_Next, a_And, a_Or, a_Not, a_If, a_IsN, a_NotN, a_AndV, a_OrV, a_NotV, a_Chain, a_Isi, a_Drop, a_ItT, a_ItL, a_Yes, a_Rg1, a_Rg2, a_LstRg, a_Par, a_Par3, a_From, a_Zip, a_Enum, runF, endD, startD, pgName, pgTup, pgCons, pgNil, asB, asI, asL, asT, isNoneD, cmpD, addD, subD, wipeD, ltD_c, zip_pairs h.st p hp]
  simp [F_fits_lets, b_fits_lets, a_Seq, a_Asg, a_Ret, a_Op, a_Var, a_C, a_Call, a_Cons, a_Nil, a_Tup, a_Lst, a_Test, a_IfS, a_Next, a_And, a_Or, a_Not, a_If, a_IsN, a_NotN, a_AndV, a_OrV, a_NotV, a_Chain, a_Isi, a_Drop, a_ItT, a_ItL, a_Yes, a_Rg1, a_Rg2, a_LstRg, a_Par, a_Par3, a_From, a_Zip, a_Enum, runF, endD, startD, pgName, pgTup, pgCons, pgNil, asB, asI, asL, asT, isNoneD, cmpD, addD, subD, case0, ixT0, isTupD, z1, z2, z3, allF_map]
theorem ev_need_lets {c : Case} {l : List Ch} (v : Val c) (h : VLets c l) (hl : l.length ≤ 1000) : F_need_lets [caseD c, rD l] = some .none := by
  simp [F_need_lets, b_need_lets, a_Seq, a_Asg, a_Ret, a_Op, a_Var, a_C, a_Call, a_Cons, a_Nil, a_Tup, a_Lst, a_Test, a_IfS, a_Next, a_And, a_Or, a_Not, a_If, a_IsN, a_NotN, a_AndV, a_OrV, a_NotV, a_Chain, a_Isi, a_Drop, a_ItT, a_ItL, a_Yes, a_Rg1, a_Rg2, a_LstRg, a_Par, a_Par3, a_From, a_Zip, a_Enum, runF, endD, startD, pgName, pgTup, pgCons, pgNil, asB, asI, asL, asT, isNoneD, cmpD, addD, subD, ev_lets v h hl]
theorem ev_often1 : F_need_often [.str "once"] = some .none := by
  have h : (match F_need_often [.str "once"] with | some .none => true | _ => false) = true := by decide +kernel
  split at h
  · assumption
  · cases h
theorem ev_often2 : F_need_often [.str "always"] = some .none := by
  have h : (match F_need_often [.str "always"] with | some .none => true | _ => false) = true := by decide +kernel
  split at h
  · assumption
  · cases h
theorem ev_most1 : F_most_of [.str "once"] = some (nD 1) := by
  have h : (match F_most_of [.str "once"] with | some (.int i) => decide (i = 1) | _ => false) = true := by decide +kernel
  split at h
  · rename_i i e
    rw [e, of_decide_eq_true h]
    rfl
  · cases h
theorem ev_most2 : F_most_of [.str "always"] = some (nD 144) := by
  have h : (match F_most_of [.str "always"] with | some (.int i) => decide (i = 144) | _ => false) = true := by decide +kernel
  split at h
  · rename_i i e
    rw [e, of_decide_eq_true h]
    rfl
  · cases h
/-- changes from a worth -/
theorem ev_from {l : List Ch} {w : Nat} (hl : l.length ≤ 1000) : F_changes_from [rD l, nD w] = some (.list ((l.filter fun ch => decide (ch.1 = w)).map cD)) := by
  have h : fLc (fItT (fVar 0)) (pgName 2) (fTest (fOp (eqD) (fOp ixD (fVar 2) (fC (.int 0))) (fVar 1))) (fVar 2) [2] [some (.d (rD l)), some (.d (nD w)), none] = some (.list ((l.filter fun ch => decide (ch.1 = w)).map cD)) :=
    fLc_eq cD cD _ rfl (by omega) fun k hk => ⟨_, rfl, by
      have e : eqD (nD k.1) (nD w) = some (.bool (decide (k.1 = w))) := eqD_pl (n := 0) (by decide) pl_n pl_n nD_inj
      simp [a_Seq, a_Asg, a_Ret, a_Op, a_Var, a_C, a_Call, a_Cons, a_Nil, a_Tup, a_Lst, a_Test, a_IfS, a_Next, a_And, a_Or, a_Not, a_If, a_IsN, a_NotN, a_AndV, a_OrV, a_NotV, a_Chain, a_Isi, a_Drop, a_ItT, a_ItL, a_Yes, a_Rg1, a_Rg2, a_LstRg, a_Par, a_Par3, a_From, a_Zip, a_Enum, runF, endD, startD, pgName, pgTup, pgCons, pgNil, asB, asI, asL, asT, isNoneD, cmpD, addD, subD, wipeD, ixT0, e], fun _ => rfl⟩
  simp [F_changes_from, b_changes_from, a_Seq, a_Asg, a_Ret, a_Op, a_Var, a_C, a_Call, a_Cons, a_Nil, a_Tup, a_Lst, a_Test, a_IfS, a_Next, a_And, a_Or, a_Not, a_If, a_IsN, a_NotN, a_AndV, a_OrV, a_NotV, a_Chain, a_Isi, a_Drop, a_ItT, a_ItL, a_Yes, a_Rg1, a_Rg2, a_LstRg, a_Par, a_Par3, a_From, a_Zip, a_Enum, runF, endD, startD, pgName, pgTup, pgCons, pgNil, asB, asI, asL, asT, isNoneD, cmpD, addD, subD, h]
/-! ### pairs alike -/
/-- keys, as a list of numbers -/
def alikeJ (c : Case) (ks : List Nat) (i : Nat) : List Nat := (List.range' (i + 1) (c.row.length - (i + 1))).filter fun j => decide (c.row[i]? = c.row[j]?) && decide (ks[i]? = ks[j]?)
def alikeT (c : Case) (ks : List Nat) : List (Nat × Nat) := (List.range c.row.length).flatMap fun i => (alikeJ c ks i).map fun j => (i, j)
theorem alikeJ_len (c : Case) (ks : List Nat) (i : Nat) : (alikeJ c ks i).length ≤ c.row.length := by
  refine Nat.le_trans (List.length_filter_le _ _) ?_
  rw [List.length_range']
  omega
theorem foldl_app {α β : Type} (f : α → List β) : ∀ (xs : List α) (acc : List β), xs.foldl (fun a x => a ++ f x) acc = acc ++ xs.flatMap f
  | [], acc => by simp
  | x :: xs, acc => by
    rw [List.foldl_cons, foldl_app f xs, List.flatMap_cons, List.append_assoc]
theorem mem_alike {c : Case} {ks : List Nat} {p : Nat × Nat} : p ∈ alikeT c ks ↔ p.1 < p.2 ∧ p.2 < c.row.length ∧ c.row[p.1]? = c.row[p.2]? ∧ ks[p.1]? = ks[p.2]? := by
  unfold alikeT
  rw [List.mem_flatMap]
  constructor
  · rintro ⟨i, hi, hp⟩
    obtain ⟨j, hj, e⟩ := List.mem_map.mp hp
    subst e
    unfold alikeJ at hj
    rw [List.mem_filter, List.mem_range'_1, Bool.and_eq_true, decide_eq_true_eq, decide_eq_true_eq] at hj
    rw [List.mem_range] at hi
    exact ⟨by omega, by omega, hj.2.1, hj.2.2⟩
  · rintro ⟨h1, h2, h3, h4⟩
    refine ⟨p.1, List.mem_range.mpr (by omega), List.mem_map.mpr ⟨p.2, ?_, rfl⟩⟩
    unfold alikeJ
    rw [List.mem_filter, List.mem_range'_1, Bool.and_eq_true, decide_eq_true_eq, decide_eq_true_eq]
    exact ⟨by omega, h3, h4⟩
abbrev pD (p : Nat × Nat) : PyData := .tuple [nD p.1, nD p.2]
theorem eqD_at {xs : List Nat} {i j : Nat} (hi : i < xs.length) (hj : j < xs.length) : ((xs.map nD)[i]?).bind (fun x => ((xs.map nD)[j]?).bind fun y => eqD x y) = some (.bool (decide (xs[i]? = xs[j]?))) := by
  rw [List.getElem?_map, List.getElem?_map, List.getElem?_eq_getElem hi, List.getElem?_eq_getElem hj]
  show eqD (nD xs[i]) (nD xs[j]) = _
  exact eqD_pl (n := 0) (by decide) pl_n pl_n (nD_inj.trans (Option.some.injEq _ _).to_iff.symm)
theorem len_fold {α β : Type} (f : α → List β) (b : Nat) : ∀ (xs : List α) (acc : List β), (∀ x ∈ xs, (f x).length ≤ b) → (xs.foldl (fun a x => a ++ f x) acc).length ≤ acc.length + xs.length * b
  | [], acc, _ => by simp
  | x :: xs, acc, h => by
    have ih := len_fold f b xs (acc ++ f x) fun y hy => h y (List.mem_cons_of_mem _ hy)
    have h1 := h x (List.mem_cons_self ..)
    rw [List.length_append] at ih
    rw [List.foldl_cons, List.length_cons, Nat.succ_mul]
    omega
end DL
namespace DL
open PySem L2
/-! P3b: the pairs alike -/
def pairsB : FSt := fSeq (fAsg (fLc (fRg2 (fOp addD (fVar 4) (fC (.int 1))) (fCall lenF (fCons (fVar 2) (fNil)))) (pgName 6) (fAnd (fTest (fOp (eqD) (fOp ixD (fVar 2) (fVar 4)) (fOp ixD (fVar 2) (fVar 6)))) (fTest (fOp (eqD) (fOp ixD (fVar 1) (fVar 4)) (fOp ixD (fVar 1) (fVar 6))))) (fVar 6) [6]) (pgName 5)) (fAsg (fOp addD (fVar 3) (fLc (fItL (fVar 5)) (pgName 6) (fYes) (fTup (fCons (fVar 4) (fCons (fVar 6) (fNil)))) [6])) (pgName 3))
def envA (c : Case) (ks : List Nat) (acc : List (Nat × Nat)) (a4 a5 a6 : Option Slot) : DEnv := [some (.d (caseD c)), some (.d (.tuple (ks.map nD))), some (.d (.tuple (c.row.map nD))), some (.d (.list (acc.map pD))), a4, a5, a6]
theorem rg2_n {f g : FM} {ρ : DEnv} {a b : Nat} (h1 : f ρ = some (nD a)) (h2 : g ρ = some (nD b)) (ha : a ≤ 1000) (hb : b ≤ 1000) : fRg2 f g ρ = some ((List.range' a (b - a)).map nD) := by
  rw [a_Rg2, h1, h2]
  show ((asI (nD a)).bind fun i => (asI (nD b)).bind _) = _
  rw [show asI (nD a) = some (a : Int) from rfl, show asI (nD b) = some (b : Int) from rfl, Option.bind_some, Option.bind_some]
  exact (if_pos ⟨rngOk_n ha, rngOk_n hb⟩).trans (by rw [rangeN])
theorem rg1_n {f : FM} {ρ : DEnv} {b : Nat} (h : f ρ = some (nD b)) (hb : b ≤ 1000) : fRg1 f ρ = some ((List.range b).map nD) := by
  rw [a_Rg1, h]
  show ((asI (nD b)).bind _) = _
  rw [show asI (nD b) = some (b : Int) from rfl, Option.bind_some]
  exact (if_pos (rngOk_n hb)).trans (by rw [range0])
theorem len_v {α : Type} {f : α → PyData} {xs : List α} {i : Nat} {ρ : DEnv} (h : ρ[i]? = some (some (.d (.tuple (xs.map f))))) : fCall lenF (fCons (fVar i) fNil) ρ = some (nD xs.length) := by
  have e : fVar i ρ = some (.tuple (xs.map f)) := by rw [a_Var, h]
  rw [a_Call, a_Cons, e]
  show lenF [.tuple (xs.map f)] = _
  rw [lenT, List.length_map]
theorem for_ix {α : Type} {pg : PGd} {body : FSt} (en : α → PyData) (R : Nat → DEnv → Prop) : ∀ (xs : List α) (n : Nat) (ρ : DEnv), (∀ k x ρ, xs[k]? = some x → R (n + k) ρ → ∃ ρ1 ρ2, pg (en x) ρ = some ρ1 ∧ body ρ1 = some (.nx ρ2) ∧ R (n + k + 1) ρ2) → R n ρ →
    ∃ ρ', forF pg body (xs.map en) ρ = some (.nx ρ') ∧ R (n + xs.length) ρ'
  | [], n, ρ, _, r => ⟨ρ, rfl, r⟩
  | x :: xs, n, ρ, h, r => by
    obtain ⟨ρ1, ρ2, h1, h2, r2⟩ := h 0 x ρ rfl r
    obtain ⟨ρ', h3, r3⟩ := for_ix en R xs (n + 1) ρ2 (fun k y ρ hk r => by
      have z := h (k + 1) y ρ hk (by rw [show n + (k + 1) = n + 1 + k by omega]; exact r)
      rw [show n + (k + 1) + 1 = n + 1 + k + 1 by omega] at z
      exact z) r2
    refine ⟨ρ', ?_, by rw [List.length_cons, show n + (xs.length + 1) = n + 1 + xs.length by omega]; exact r3⟩
    show (pg (en x) ρ).bind _ = _
    rw [h1, Option.bind_some, h2, Option.bind_some]
    exact h3
theorem op_n {fr : PyData → PyData → Option PyData} {f g : FM} {ρ : DEnv} {x y z : PyData} (h1 : f ρ = some x) (h2 : g ρ = some y) (h : fr x y = some z) : fOp fr f g ρ = some z := by
  rw [a_Op, h1, Option.bind_some, h2, Option.bind_some, h]
theorem ix_nat {xs : List Nat} {i : Nat} (h : i < xs.length) : ixD (.tuple (xs.map nD)) (nD i) = some (nD xs[i]) := by
  rw [ixT, List.getElem?_map, List.getElem?_eq_getElem h]
  rfl
theorem eq_at {xs : List Nat} {i j : Nat} (hi : i < xs.length) (hj : j < xs.length) : eqD (nD xs[i]) (nD xs[j]) = some (.bool (decide (xs[i]? = xs[j]?))) := by
  refine eqD_pl (n := 0) (by decide) pl_n pl_n ?_
  rw [nD_inj, List.getElem?_eq_getElem hi, List.getElem?_eq_getElem hj, Option.some.injEq]
theorem add_n (a b : Nat) : addD (nD a) (nD b) = some (nD (a + b)) := by
  show some (PyData.int ((a : Int) + (b : Int))) = _
  rw [← Int.natCast_add]
theorem pairsB_eq {c : Case} (v : Val c) {ks : List Nat} (hk : ks.length = c.row.length) {acc : List (Nat × Nat)} {i : Nat} {a5 a6 : Option Slot} (hi : i < c.row.length) (ha : acc.length ≤ 500) :
    pairsB (envA c ks acc (some (.d (nD i))) a5 a6) = some (.nx (envA c ks (acc ++ (alikeJ c ks i).map fun j => (i, j)) (some (.d (nD i))) (some (.d (.list ((alikeJ c ks i).map nD)))) a6)) := by
  have hn := v.n
  have hj := alikeJ_len c ks i
  unfold pairsB
  rw [a_Seq, a_Asg, fLc_eq nD nD (fun j => decide (c.row[i]? = c.row[j]?) && decide (ks[i]? = ks[j]?)) (xs := List.range' (i + 1) (c.row.length - (i + 1)))
    (rg2_n (a := i + 1) (b := c.row.length) (op_n (y := nD 1) rfl rfl (add_n i 1)) (len_v rfl) (by omega) (by omega)) (by rw [List.length_range']; omega) fun j hj => ⟨_, rfl, ?_, fun _ => rfl⟩]
  · show (fAsg _ _ (envA c ks acc (some (.d (nD i))) (some (.d (.list ((alikeJ c ks i).map nD)))) a6)) = _
    rw [a_Asg, op_n (x := .list (acc.map pD)) rfl (fLc_all nD (fun j => pD (i, j)) (xs := alikeJ c ks i) rfl (by omega) fun j hj => ⟨_, rfl, rfl⟩) (z := .list (acc.map pD ++ (alikeJ c ks i).map fun j => pD (i, j))) ?_]
    · have e : acc.map pD ++ (alikeJ c ks i).map (fun j => pD (i, j)) = (acc ++ (alikeJ c ks i).map fun j => (i, j)).map pD := by
        rw [List.map_append, List.map_map]
        rfl
      rw [e]
      rfl
    · show (if (acc.map pD).length + ((alikeJ c ks i).map fun j => pD (i, j)).length ≤ cap then some _ else none) = _
      rw [if_pos]
      rw [List.length_map, List.length_map]
      show _ ≤ 1000000
      omega
  · rw [List.mem_range'_1] at hj
    rw [a_And, a_Test, op_n (op_n rfl rfl (ix_nat hi)) (op_n rfl rfl (ix_nat (xs := c.row) (i := j) (by omega))) (eq_at hi (by omega)), a_Test, op_n (op_n rfl rfl (ix_nat (xs := ks) (by omega))) (op_n rfl rfl (ix_nat (xs := ks) (i := j) (by omega))) (eq_at (by omega) (by omega))]
    cases decide (c.row[i]? = c.row[j]?) <;> rfl
def alikeK (c : Case) (ks : List Nat) (k : Nat) : List (Nat × Nat) := (List.range k).flatMap fun i => (alikeJ c ks i).map fun j => (i, j)
theorem alikeK_succ (c : Case) (ks : List Nat) (k : Nat) : alikeK c ks (k + 1) = alikeK c ks k ++ (alikeJ c ks k).map fun j => (k, j) := by
  unfold alikeK
  rw [List.range_succ, List.flatMap_append]
  simp
theorem alikeK_len (c : Case) (ks : List Nat) : ∀ k, (alikeK c ks k).length ≤ k * c.row.length
  | 0 => by simp [alikeK]
  | k + 1 => by
    have h1 := alikeK_len c ks k
    have h2 := alikeJ_len c ks k
    rw [alikeK_succ, List.length_append, List.length_map, Nat.succ_mul]
    omega
theorem ev_alike {c : Case} (v : Val c) {ks : List Nat} (hk : ks.length = c.row.length) : F_alike_pairs [caseD c, .tuple (ks.map nD)] = some (.list ((alikeT c ks).map pD)) := by
  have hn := v.n
  obtain ⟨ρ', h1, a4, a5, a6, h2⟩ := for_ix (pg := pgName 4) (body := pairsB) nD (fun k ρ => ∃ a4 a5 a6, ρ = envA c ks (alikeK c ks k) a4 a5 a6) (List.range c.row.length) 0 (envA c ks [] none none none) (fun k i ρ hi h => by
    obtain ⟨a4, a5, a6, e⟩ := h
    subst e
    rw [Nat.zero_add]
    have hik : i = k ∧ k < c.row.length := by
      obtain ⟨hl, e⟩ := List.getElem?_eq_some_iff.mp hi
      rw [List.length_range] at hl
      rw [List.getElem_range] at e
      exact ⟨e.symm, hl⟩
    obtain ⟨rfl, hl⟩ := hik
    have hb : (alikeK c ks i).length ≤ 500 := by
      refine Nat.le_trans (alikeK_len c ks i) (Nat.le_trans (Nat.mul_le_mul (show i ≤ 12 by omega) hn) (by decide))
    refine ⟨_, _, rfl, pairsB_eq v hk hl hb, some (.d (nD i)), some (.d (.list ((alikeJ c ks i).map nD))), a6, ?_⟩
    rw [alikeK_succ]) ⟨none, none, none, rfl⟩
  rw [Nat.zero_add, List.length_range] at h2
  subst h2
  have hf : fFor (fRg1 (fCall lenF (fCons (fVar 2) (fNil)))) (pgName 4) pairsB (envA c ks [] none none none) = some (.nx (envA c ks (alikeT c ks) a4 a5 a6)) := by
    show (fRg1 _ _).bind _ = _
    rw [rg1_n (len_v (xs := c.row) (f := nD) rfl) (by omega)]
    exact h1
  have e : b_alike_pairs = fSeq (fAsg (fTup (fCons (fOp ixD (fOp ixD (fVar 0) (fC (.int 0))) (fC (.int 1))) (fCons (fLst (fNil)) (fNil)))) (pgTup (pgCons (pgName 2) (pgCons (pgName 3) (pgNil))))) (fSeq (fFor (fRg1 (fCall lenF (fCons (fVar 2) (fNil)))) (pgName 4) pairsB) (fRet (fVar 3))) := rfl
  have e2 : fAsg (fTup (fCons (fOp ixD (fOp ixD (fVar 0) (fC (.int 0))) (fC (.int 1))) (fCons (fLst (fNil)) (fNil)))) (pgTup (pgCons (pgName 2) (pgCons (pgName 3) (pgNil)))) (startD 5 [caseD c, .tuple (ks.map nD)]) = some (.nx (envA c ks [] none none none)) := rfl
  unfold F_alike_pairs runF
  rw [e, a_Seq, e2, Option.bind_some]
  show endD (fSeq _ _ (envA c ks [] none none none)) = _
  rw [a_Seq, hf]
  rfl
end DL
/-! P4: one turn of the search for a trail. -/
namespace DL
open PySem L2
abbrev Pr := Nat × Nat
abbrev Item := Pr × List Ch
abbrev itD (e : Item) : PyData := .tuple [nD e.1.1, nD e.1.2, rD e.2]
def envT (c : Case) (L : List Ch) (x y most : Nat) (met : List Pr) (line : List Item) (a8 a9 a10 a11 a12 a13 : Option Slot) : DEnv :=
  [some (.d (caseD c)), some (.d (rD L)), some (.d (nD x)), some (.d (nD y)), some (.d (nD most)), some (.d (.tuple (c.row.map nD))), some (.d (.list (met.map pD))), some (.d (.list (line.map itD))), a8, a9, a10, a11, a12, a13]
def bAnsNe : FTt := fTest (fOp (neD) (fCall F_answer_of (fCons (fVar 0) (fCons (fVar 8) (fCons (fVar 12) (fNil))))) (fCall F_answer_of (fCons (fVar 0) (fCons (fVar 9) (fCons (fVar 12) (fNil))))))
def bRet : FSt := fIfS bAnsNe (fRet (fOp addD (fVar 10) (fTup (fCons (fVar 12) (fNil))))) (fNext)
def bBoth : FM := fTup (fCons (fCall F_behind (fCons (fVar 0) (fCons (fVar 8) (fCons (fVar 12) (fNil))))) (fCons (fCall F_behind (fCons (fVar 0) (fCons (fVar 9) (fCons (fVar 12) (fNil))))) (fNil)))
def bNew : FTt := fAnd (fTest (fNotN (fOp ixD (fVar 13) (fC (.int 0))))) (fTest (fOp (notInD) (fVar 13) (fVar 6)))
def bPush : FSt := fPar 6 7 (fCons (fOp addD (fVar 6) (fLst (fCons (fVar 13) (fNil)))) (fCons (fOp addD (fVar 7) (fLst (fCons (fOp addD (fVar 13) (fTup (fCons (fOp addD (fVar 10) (fTup (fCons (fVar 12) (fNil)))) (fNil)))) (fNil)))) (fNil)))
def bNext : FSt := fSeq (fAsg bBoth (pgName 13)) (fIfS bNew bPush (fNext))
def bPop : FSt := fAsg (fTup (fCons (fOp ixD (fVar 7) (fC (.int 0))) (fCons (fFrom (fVar 7) (fC (.int 1))) (fNil)))) (pgTup (pgCons (pgTup (pgCons (pgName 8) (pgCons (pgName 9) (pgCons (pgName 10) (pgNil))))) (pgCons (pgName 7) (pgNil))))
def bChs : FSt := fAsg (fIf (fTest (fOp (ltD) (fCall lenF (fCons (fVar 10) (fNil))) (fVar 4))) (fCall F_changes_from (fCons (fVar 1) (fCons (fOp ixD (fVar 5) (fVar 8)) (fNil)))) (fLst (fNil))) (pgName 11)
def bTurn : FSt := fSeq bPop (fSeq bChs (fSeq (fFor (fItL (fVar 11)) (pgName 12) bRet) (fFor (fItL (fVar 11)) (pgName 12) bNext)))
def bMore : FTt := fTest (fOp (neD) (fVar 7) (fLst (fNil)))
theorem trail_body : b_trail_between = fSeq (fPar3 5 6 7 (fCons (fOp ixD (fOp ixD (fVar 0) (fC (.int 0))) (fC (.int 1))) (fCons (fLst (fCons (fTup (fCons (fVar 2) (fCons (fVar 3) (fNil)))) (fNil))) (fCons (fLst (fCons (fTup (fCons (fVar 2) (fCons (fVar 3) (fCons (fTup (fNil)) (fNil))))) (fNil))) (fNil))))) (fSeq (fWhile 200 bMore bTurn) (fRet (fC .none))) := rfl
/-! ### what it is to tell a pair apart -/
def Differ (c : Case) (L : List Ch) (p : Pr) : Prop := ∃ ch ∈ L, c.row[p.1]? = some ch.1 ∧ ans c p.1 ch.2 ≠ ans c p.2 ch.2
def Go (c : Case) (L : List Ch) (p q : Pr) : Prop := ∃ ch ∈ L, c.row[p.1]? = some ch.1 ∧ step c p.1 ch.2 = some q.1 ∧ step c p.2 ch.2 = some q.2
/-- told apart by k + 1 changes -/
def Ap (c : Case) (L : List Ch) : Nat → Pr → Prop
  | 0, p => Differ c L p
  | k + 1, p => ∃ q, Go c L p q ∧ Ap c L k q
/-- a pair of things of one worth -/
def Ok2 (c : Case) (p : Pr) : Prop := p.1 < c.row.length ∧ p.2 < c.row.length ∧ c.row[p.1]? = c.row[p.2]?
def from_ (c : Case) (L : List Ch) (x : Nat) : List Ch := L.filter fun ch => decide (c.row[x]? = some ch.1)
def push (c : Case) (p : Pr) (tr : List Ch) (b : List Pr × List Item) (ch : Ch) : List Pr × List Item := match step c p.1 ch.2, step c p.2 ch.2 with
  | some a, some d => if (a, d) ∈ b.1 then b else (b.1 ++ [(a, d)], b.2 ++ [((a, d), tr ++ [ch])])
  | _, _ => b
theorem nodup_len {α : Type} [DecidableEq α] : ∀ (l m : List α), l.Nodup → (∀ x ∈ l, x ∈ m) → l.length ≤ m.length
  | [], _, _, _ => Nat.zero_le _
  | x :: l, m, h, s => by
    obtain ⟨h1, h2⟩ := List.nodup_cons.mp h
    have hx := s x (List.mem_cons_self ..)
    have ih := nodup_len l (m.erase x) h2 fun y hy => (List.mem_erase_of_ne (fun e => h1 (by rw [← e]; exact hy))).mpr (s y (List.mem_cons_of_mem _ hy))
    have := List.length_erase_of_mem hx
    have := List.length_pos_of_mem hx
    rw [List.length_cons]
    omega
def code (p : Pr) : Nat := p.1 * 12 + p.2
theorem pairs_len {l : List Pr} (h : l.Nodup) (s : ∀ p ∈ l, p.1 < 12 ∧ p.2 < 12) : l.length ≤ 144 := by
  have h1 : (l.map code).Nodup := by
    refine List.pairwise_map.mpr (List.Pairwise.imp_of_mem (fun {a b} ha hb hne e => hne ?_) h)
    have := s a ha
    have := s b hb
    unfold code at e
    exact Prod.ext (by omega) (by omega)
  have h2 := nodup_len (l.map code) (List.range 144) h1 fun x hx => by
    obtain ⟨p, hp, e⟩ := List.mem_map.mp hx
    have := s p hp
    subst e
    rw [List.mem_range]
    unfold code
    omega
  rw [List.length_map, List.length_range] at h2
  exact h2
structure Good (c : Case) (met : List Pr) : Prop where
  nd : met.Nodup
  ok : ∀ p ∈ met, Ok2 c p
section
variable {c : Case} {L : List Ch} {p q : Pr} {met : List Pr} {line : List Item} {tr : List Ch} {ch : Ch} {x y most : Nat}
theorem Good.len (v : Val c) (g : Good c met) : met.length ≤ 144 := pairs_len g.nd fun p hp => by
  have := g.ok p hp
  have := v.n
  unfold Ok2 at *
  omega
theorem go_ok (v : Val c) (h : Go c L p q) : Ok2 c q := by
  obtain ⟨ch, _, _, h1, h2⟩ := h
  have e1 := step_row v h1
  have e2 := step_row v h2
  exact ⟨row_lt e1, row_lt e2, by rw [e1, e2]⟩
theorem push_good (v : Val c) {b : List Pr × List Item} (g : Good c b.1) : Good c (push c p tr b ch).1 := by
  unfold push
  split
  · rename_i a d ha hd
    split
    · exact g
    · rename_i hm
      refine ⟨List.nodup_append.mpr ⟨g.nd, by simp, fun z hz w hw => ?_⟩, fun z hz => ?_⟩
      · rw [List.mem_singleton] at hw
        subst hw
        exact fun e => hm (by rw [← e]; exact hz)
      · rcases List.mem_append.mp hz with hz | hz
        · exact g.ok z hz
        · rw [List.mem_singleton] at hz
          subst hz
          have e1 := step_row v ha
          have e2 := step_row v hd
          exact ⟨row_lt e1, row_lt e2, by rw [e1, e2]⟩
  · exact g
/-! ### its parts -/
theorem par_eq {i j : Nat} {fa : FAa} {ρ : DEnv} {a b : PyData} (h : fa ρ = some [a, b]) : fPar i j fa ρ = some (.nx ((ρ.set i (some (.d a))).set j (some (.d b)))) := by
  rw [a_Par, h]
  rfl
theorem cons_eq {f : FM} {fa : FAa} {ρ : DEnv} {a : PyData} {as : List PyData} (h1 : f ρ = some a) (h2 : fa ρ = some as) : fCons f fa ρ = some (a :: as) := by
  rw [a_Cons, h1, Option.bind_some, h2]
  rfl
theorem tup_eq {fa : FAa} {ρ : DEnv} {as : List PyData} (h : fa ρ = some as) : fTup fa ρ = some (.tuple as) := by
  rw [a_Tup, h]
  rfl
theorem lst_eq {fa : FAa} {ρ : DEnv} {as : List PyData} (h : fa ρ = some as) : fLst fa ρ = some (.list as) := by
  rw [a_Lst, h]
  rfl
theorem call_eq {F : List PyData → Option PyData} {fa : FAa} {ρ : DEnv} {as : List PyData} {z : PyData} (h : fa ρ = some as) (h2 : F as = some z) : fCall F fa ρ = some z := by
  rw [a_Call, h, Option.bind_some, h2]
theorem test_eq {f : FM} {ρ : DEnv} {b : Bool} (h : f ρ = some (.bool b)) : fTest f ρ = some b := by
  rw [a_Test, h]
  rfl
theorem addL_eq {xs ys : List PyData} (h : xs.length + ys.length ≤ 1000000) : addD (.list xs) (.list ys) = some (.list (xs ++ ys)) := if_pos h
theorem addT_eq {xs ys : List PyData} (h : xs.length + ys.length ≤ 1000000) : addD (.tuple xs) (.tuple ys) = some (.tuple (xs ++ ys)) := if_pos h
theorem ansNe_eq (v : Val c) (hp : Ok2 c p) (hc : ch.2 < c.many) {a11 a13 : Option Slot} {t : PyData} : bAnsNe (envT c L x y most met line (some (.d (nD p.1))) (some (.d (nD p.2))) (some (.d t)) a11 (some (.d (cD ch))) a13) = some (!decide (ans c p.1 ch.2 = ans c p.2 ch.2)) :=
  test_eq (op_n (call_eq (cons_eq rfl (cons_eq rfl (cons_eq rfl rfl))) (ev_answer v hp.1 hc)) (call_eq (cons_eq rfl (cons_eq rfl (cons_eq rfl rfl))) (ev_answer v hp.2.1 hc)) (neD_pl (n := 0) (by decide) pl_o pl_o oD_inj))
theorem both_eq (v : Val c) (hp : Ok2 c p) (hc : ch.2 < c.many) {a10 a11 a13 : Option Slot} : bBoth (envT c L x y most met line (some (.d (nD p.1))) (some (.d (nD p.2))) a10 a11 (some (.d (cD ch))) a13) = some (.tuple [oD (step c p.1 ch.2), oD (step c p.2 ch.2)]) :=
  tup_eq (cons_eq (call_eq (cons_eq rfl (cons_eq rfl (cons_eq rfl rfl))) (ev_behind v hp.1 hc)) (cons_eq (call_eq (cons_eq rfl (cons_eq rfl (cons_eq rfl rfl))) (ev_behind v hp.2.1 hc)) rfl))
theorem pD_inj {a b : Pr} : pD a = pD b ↔ a = b := cD_inj
theorem notIn_eq {a : Pr} : notInD (pD a) (.list (met.map pD)) = some (.bool (!decide (a ∈ met))) := by
  have h1 : pl 1 (pD a) = true := pl_c
  have h2 : (met.map pD).all (pl 1) = true := pl_map (fun _ => pl_c) met
  have h3 : pl 2 (.list (met.map pD)) = true := h2
  show (if (SeqAt.shaped (pD a) && SeqAt.shaped (.list (met.map pD))) = true then some (PyData.bool (!inL (pD a) (met.map pD))) else none) = _
  rw [pl_shaped h1 (by decide), pl_shaped h3 (by decide), if_pos (show (true && true) = true from rfl)]
  have e : inL (pD a) (met.map pD) = decide (a ∈ met) := by
    refine Bool.eq_iff_iff.mpr ((inL_pl h1 h2).trans ?_)
    rw [decide_eq_true_eq, List.mem_map]
    exact ⟨fun ⟨b, hb, e⟩ => by rw [← pD_inj.mp e]; exact hb, fun h => ⟨a, h, rfl⟩⟩
  rw [e]
/-- one change pushed -/
theorem next_eq (v : Val c) (hp : Ok2 c p) (hc : ch.2 < c.many) (he : ans c p.1 ch.2 = ans c p.2 ch.2) (hm : met.length ≤ 1000) (hl : line.length ≤ 1000) (ht : tr.length ≤ 1000) {a11 a13 : Option Slot} :
    ∃ a13', bNext (envT c L x y most met line (some (.d (nD p.1))) (some (.d (nD p.2))) (some (.d (rD tr))) a11 (some (.d (cD ch))) a13) =
      some (.nx (envT c L x y most (push c p tr (met, line) ch).1 (push c p tr (met, line) ch).2 (some (.d (nD p.1))) (some (.d (nD p.2))) (some (.d (rD tr))) a11 (some (.d (cD ch))) a13')) := by
  refine ⟨some (.d (.tuple [oD (step c p.1 ch.2), oD (step c p.2 ch.2)])), ?_⟩
  unfold bNext
  rw [a_Seq, a_Asg, both_eq v hp hc, Option.bind_some]
  show fIfS bNew bPush fNext (envT c L x y most met line (some (.d (nD p.1))) (some (.d (nD p.2))) (some (.d (rD tr))) a11 (some (.d (cD ch))) (some (.d (.tuple [oD (step c p.1 ch.2), oD (step c p.2 ch.2)])))) = _
  have hs : step c p.1 ch.2 = none ↔ step c p.2 ch.2 = none := by rw [← ans_none v, ← ans_none v, he]
  cases h1 : step c p.1 ch.2 with
  | none =>
    have h2 := hs.mp h1
    unfold push
    rw [h1, h2]
    rfl
  | some a =>
    cases h2 : step c p.2 ch.2 with
    | none => rw [hs.mpr h2] at h1; cases h1
    | some d =>
      unfold push
      simp only [h1, h2]
      have hn : bNew (envT c L x y most met line (some (.d (nD p.1))) (some (.d (nD p.2))) (some (.d (rD tr))) a11 (some (.d (cD ch))) (some (.d (.tuple [oD (some a), oD (some d)])))) = some (!decide ((a, d) ∈ met)) := by
        unfold bNew
        rw [a_And, test_eq (b := true) rfl, Option.bind_some, if_pos rfl]
        exact test_eq (op_n (x := pD (a, d)) rfl rfl notIn_eq)
      rw [a_IfS, hn, Option.bind_some]
      by_cases hmem : (a, d) ∈ met
      · rw [if_pos hmem, decide_eq_true hmem]
        rfl
      · rw [if_neg hmem, decide_eq_false hmem, Bool.not_false, if_pos rfl]
        unfold bPush
        have e1 : met.map pD ++ [pD (a, d)] = (met ++ [(a, d)]).map pD := by rw [List.map_append]; rfl
        have e2 : line.map itD ++ [itD ((a, d), tr ++ [ch])] = (line ++ [((a, d), tr ++ [ch])]).map itD := by rw [List.map_append]; rfl
        have e3 : tr.map cD ++ [cD ch] = (tr ++ [ch]).map cD := by rw [List.map_append]; rfl
        rw [par_eq (a := .list ((met ++ [(a, d)]).map pD)) (b := .list ((line ++ [((a, d), tr ++ [ch])]).map itD)) (cons_eq (op_n rfl (lst_eq (cons_eq rfl rfl)) ?_) (cons_eq (op_n rfl (lst_eq (cons_eq (op_n rfl (tup_eq (cons_eq (op_n rfl (tup_eq (cons_eq rfl rfl)) (z := rD (tr ++ [ch])) ?_) rfl)) (z := itD ((a, d), tr ++ [ch])) rfl) rfl)) ?_) rfl))]
        · rfl
        · rw [← e1]
          exact addL_eq (by rw [List.length_map]; show _ + 1 ≤ _; omega)
        · show addD (.tuple (tr.map cD)) (.tuple [cD ch]) = some (.tuple ((tr ++ [ch]).map cD))
          rw [← e3]
          exact addT_eq (by rw [List.length_map]; show _ + 1 ≤ _; omega)
        · rw [← e2]
          exact addL_eq (by rw [List.length_map]; show _ + 1 ≤ _; omega)
end
end DL
/-! P5: the search for a trail, to its end. -/
namespace DL
open PySem L2
section
variable {c : Case} {L : List Ch} {p q : Pr} {met : List Pr} {line rest : List Item} {tr : List Ch} {ch : Ch} {x y most : Nat}
theorem ret_loop (v : Val c) (hp : Ok2 c p) (ht : tr.length ≤ 1000) {cs : List Ch} (hcs : ∀ ch ∈ cs, ch.2 < c.many) {a12 a13 : Option Slot} :
    (cs.all (fun ch => decide (ans c p.1 ch.2 = ans c p.2 ch.2)) = true ∧ ∃ a12', fFor (fItL (fVar 11)) (pgName 12) bRet (envT c L x y most met line (some (.d (nD p.1))) (some (.d (nD p.2))) (some (.d (rD tr))) (some (.d (.list (cs.map cD)))) a12 a13) =
      some (.nx (envT c L x y most met line (some (.d (nD p.1))) (some (.d (nD p.2))) (some (.d (rD tr))) (some (.d (.list (cs.map cD)))) a12' a13))) ∨
    (cs.all (fun ch => decide (ans c p.1 ch.2 = ans c p.2 ch.2)) = false ∧ ∃ z, fFor (fItL (fVar 11)) (pgName 12) bRet (envT c L x y most met line (some (.d (nD p.1))) (some (.d (nD p.2))) (some (.d (rD tr))) (some (.d (.list (cs.map cD)))) a12 a13) = some (.rt z) ∧ z ≠ .none) := by
  have h := for_ret (pg := pgName 12) (body := bRet) cD (fun ρ => ∃ a12, ρ = envT c L x y most met line (some (.d (nD p.1))) (some (.d (nD p.2))) (some (.d (rD tr))) (some (.d (.list (cs.map cD)))) a12 a13) (fun ch => !decide (ans c p.1 ch.2 = ans c p.2 ch.2)) cs
    (envT c L x y most met line (some (.d (nD p.1))) (some (.d (nD p.2))) (some (.d (rD tr))) (some (.d (.list (cs.map cD)))) a12 a13) (fun ch ρ hc hr => by
      obtain ⟨a12, e⟩ := hr
      subst e
      refine ⟨_, rfl, ?_⟩
      have e := ansNe_eq (L := L) (x := x) (y := y) (most := most) (met := met) (line := line) v hp (hcs ch hc) (a11 := some (.d (.list (cs.map cD)))) (a13 := a13) (t := rD tr)
      cases hb : decide (ans c p.1 ch.2 = ans c p.2 ch.2) with
      | true =>
        refine .inl ⟨rfl, _, ?_, some (.d (cD ch)), rfl⟩
        rw [hb] at e
        show bRet (envT c L x y most met line _ _ _ _ (some (.d (cD ch))) a13) = _
        unfold bRet
        rw [a_IfS, e]
        rfl
      | false =>
        refine .inr ⟨rfl, .tuple (tr.map cD ++ [cD ch]), ?_, fun z => nomatch z⟩
        rw [hb] at e
        show bRet (envT c L x y most met line _ _ _ _ (some (.d (cD ch))) a13) = _
        unfold bRet
        rw [a_IfS, e, Option.bind_some, Bool.not_false, if_pos rfl, a_Ret, op_n (x := rD tr) (y := .tuple [cD ch]) rfl rfl (addT_eq (by rw [List.length_map]; show _ + 1 ≤ _; omega))]
        rfl) ⟨a12, rfl⟩
  simp only [Bool.not_not] at h
  rcases h with ⟨h1, ρ', h2, a12', e⟩ | ⟨h1, z, h2, hz⟩
  · subst e
    exact .inl ⟨h1, a12', h2⟩
  · exact .inr ⟨h1, z, h2, hz⟩
theorem push_len {b : List Pr × List Item} (h : b.2.length ≤ b.1.length) : (push c p tr b ch).2.length ≤ (push c p tr b ch).1.length := by
  unfold push
  split
  · split
    · exact h
    · simp only [List.length_append, List.length_singleton]
      omega
  · exact h
theorem push_loop (v : Val c) (hp : Ok2 c p) (ht : tr.length ≤ 1000) {cs : List Ch} (hcs : ∀ ch ∈ cs, ch.2 < c.many ∧ ans c p.1 ch.2 = ans c p.2 ch.2) (g : Good c met) (hl : line.length ≤ met.length) {a12 a13 : Option Slot} :
    Good c (cs.foldl (push c p tr) (met, line)).1 ∧ ∃ a12' a13', fFor (fItL (fVar 11)) (pgName 12) bNext (envT c L x y most met line (some (.d (nD p.1))) (some (.d (nD p.2))) (some (.d (rD tr))) (some (.d (.list (cs.map cD)))) a12 a13) =
      some (.nx (envT c L x y most (cs.foldl (push c p tr) (met, line)).1 (cs.foldl (push c p tr) (met, line)).2 (some (.d (nD p.1))) (some (.d (nD p.2))) (some (.d (rD tr))) (some (.d (.list (cs.map cD)))) a12' a13')) := by
  obtain ⟨ρ', h1, ⟨a12', a13', h2⟩, h3, _⟩ := for_eq (pg := pgName 12) (body := bNext) cD (fun (b : List Pr × List Item) ρ => (∃ a12 a13, ρ = envT c L x y most b.1 b.2 (some (.d (nD p.1))) (some (.d (nD p.2))) (some (.d (rD tr))) (some (.d (.list (cs.map cD)))) a12 a13) ∧ Good c b.1 ∧ b.2.length ≤ b.1.length)
    (push c p tr) cs (met, line) (envT c L x y most met line (some (.d (nD p.1))) (some (.d (nD p.2))) (some (.d (rD tr))) (some (.d (.list (cs.map cD)))) a12 a13) (fun b ch ρ hc hr => by
      obtain ⟨⟨a12, a13, e⟩, g, hl⟩ := hr
      subst e
      obtain ⟨hc1, hc2⟩ := hcs ch hc
      have hg := g.len v
      obtain ⟨a13', e⟩ := next_eq (L := L) (x := x) (y := y) (most := most) (met := b.1) (line := b.2) v hp hc1 hc2 (by omega) (by omega) ht (a11 := some (.d (.list (cs.map cD)))) (a13 := a13)
      exact ⟨_, _, rfl, e, ⟨some (.d (cD ch)), a13', rfl⟩, push_good v g, push_len hl⟩) ⟨⟨a12, a13, rfl⟩, g, hl⟩
  subst h2
  exact ⟨h3, a12', a13', h1⟩
theorem pop_eq {a8 a9 a10 a11 a12 a13 : Option Slot} : bPop (envT c L x y most met ((p, tr) :: rest) a8 a9 a10 a11 a12 a13) = some (.nx (envT c L x y most met rest (some (.d (nD p.1))) (some (.d (nD p.2))) (some (.d (rD tr))) a11 a12 a13)) := by
  have e : fFrom (fVar 7) (fC (.int 1)) (envT c L x y most met ((p, tr) :: rest) a8 a9 a10 a11 a12 a13) = some (.list (rest.map itD)) := by
    show slD (.list (((p, tr) :: rest).map itD)) (some 1) none = _
    unfold slD
    simp only [cut1]
    rfl
  unfold bPop
  rw [a_Asg, tup_eq (cons_eq (op_n (z := itD (p, tr)) rfl rfl (ixL0 _)) (cons_eq e rfl))]
  rfl
theorem chs_eq (v : Val c) (hp : Ok2 c p) (hL : L.length ≤ 1000) {a11 a12 a13 : Option Slot} : bChs (envT c L x y most met rest (some (.d (nD p.1))) (some (.d (nD p.2))) (some (.d (rD tr))) a11 a12 a13) =
    some (.nx (envT c L x y most met rest (some (.d (nD p.1))) (some (.d (nD p.2))) (some (.d (rD tr))) (some (.d (.list ((if tr.length < most then from_ c L p.1 else []).map cD)))) a12 a13)) := by
  have e0 : fTest (fOp (ltD) (fCall lenF (fCons (fVar 10) (fNil))) (fVar 4)) (envT c L x y most met rest (some (.d (nD p.1))) (some (.d (nD p.2))) (some (.d (rD tr))) a11 a12 a13) = some (decide (tr.length < most)) := by
    refine test_eq (op_n (len_v (xs := tr) (f := cD) rfl) rfl ?_)
    show some (PyData.bool (decide ((tr.length : Int) < (most : Int)))) = _
    rw [decide_eq_decide.mpr Int.ofNat_lt]
  have e1 : fCall F_changes_from (fCons (fVar 1) (fCons (fOp ixD (fVar 5) (fVar 8)) (fNil))) (envT c L x y most met rest (some (.d (nD p.1))) (some (.d (nD p.2))) (some (.d (rD tr))) a11 a12 a13) = some (.list ((from_ c L p.1).map cD)) := by
    refine call_eq (cons_eq rfl (cons_eq (op_n rfl rfl (ix_nat hp.1)) rfl)) ((ev_from hL).trans ?_)
    have ef : (L.filter fun ch => decide (ch.1 = c.row[p.1]'hp.1)) = from_ c L p.1 := by
      refine List.filter_congr fun ch _ => ?_
      have hr : c.row[p.1]? = some (c.row[p.1]'hp.1) := List.getElem?_eq_getElem hp.1
      generalize c.row[p.1]'hp.1 = w at hr
      rw [hr, decide_eq_decide, Option.some.injEq]
      exact eq_comm
    rw [ef]
  unfold bChs
  rw [a_Asg, a_If, e0, Option.bind_some]
  by_cases h : tr.length < most
  · rw [decide_eq_true h, if_pos rfl, if_pos h, e1]
    rfl
  · rw [decide_eq_false h, if_neg Bool.false_ne_true, if_neg h]
    rfl
theorem turn_cut (v : Val c) (hp : Ok2 c p) (hL : L.length ≤ 1000) (h : most ≤ tr.length) {a8 a9 a10 a11 a12 a13 : Option Slot} : ∃ b8 b9 b10 b11 b12 b13, bTurn (envT c L x y most met ((p, tr) :: rest) a8 a9 a10 a11 a12 a13) = some (.nx (envT c L x y most met rest b8 b9 b10 b11 b12 b13)) := by
  refine ⟨some (.d (nD p.1)), some (.d (nD p.2)), some (.d (rD tr)), some (.d (.list [])), a12, a13, ?_⟩
  unfold bTurn
  rw [a_Seq, pop_eq, Option.bind_some]
  simp only
  rw [a_Seq, chs_eq v hp hL, if_neg (by omega), Option.bind_some]
  rfl
theorem differ_all (hL : ∀ ch ∈ L, ch.2 < c.many) : (from_ c L p.1).all (fun ch => decide (ans c p.1 ch.2 = ans c p.2 ch.2)) = true ↔ ¬ Differ c L p := by
  rw [List.all_eq_true]
  unfold Differ from_
  constructor
  · rintro h ⟨ch, h1, h2, h3⟩
    exact h3 (of_decide_eq_true (h ch (List.mem_filter.mpr ⟨h1, decide_eq_true h2⟩)))
  · intro h ch hc
    obtain ⟨h1, h2⟩ := List.mem_filter.mp hc
    refine decide_eq_true (Classical.byContradiction fun h3 => h ⟨ch, h1, of_decide_eq_true h2, h3⟩)
theorem turn_full (v : Val c) (hp : Ok2 c p) (hL : L.length ≤ 1000) (hlt : ∀ ch ∈ L, ch.2 < c.many) (h : tr.length < most) (ht : tr.length ≤ 1000) (g : Good c met) (hl : rest.length ≤ met.length) {a8 a9 a10 a11 a12 a13 : Option Slot} :
    (¬ Differ c L p ∧ Good c ((from_ c L p.1).foldl (push c p tr) (met, rest)).1 ∧ ∃ b8 b9 b10 b11 b12 b13, bTurn (envT c L x y most met ((p, tr) :: rest) a8 a9 a10 a11 a12 a13) = some (.nx (envT c L x y most ((from_ c L p.1).foldl (push c p tr) (met, rest)).1 ((from_ c L p.1).foldl (push c p tr) (met, rest)).2 b8 b9 b10 b11 b12 b13))) ∨
    (Differ c L p ∧ ∃ z, bTurn (envT c L x y most met ((p, tr) :: rest) a8 a9 a10 a11 a12 a13) = some (.rt z) ∧ z ≠ .none) := by
  have hf : ∀ ch ∈ from_ c L p.1, ch.2 < c.many := fun ch hc => hlt ch (List.mem_filter.mp hc).1
  have e0 : bTurn (envT c L x y most met ((p, tr) :: rest) a8 a9 a10 a11 a12 a13) = fSeq (fFor (fItL (fVar 11)) (pgName 12) bRet) (fFor (fItL (fVar 11)) (pgName 12) bNext) (envT c L x y most met rest (some (.d (nD p.1))) (some (.d (nD p.2))) (some (.d (rD tr))) (some (.d (.list ((from_ c L p.1).map cD)))) a12 a13) := by
    unfold bTurn
    rw [a_Seq, pop_eq, Option.bind_some]
    simp only
    rw [a_Seq, chs_eq v hp hL, if_pos h, Option.bind_some]
  rw [e0]
  rcases ret_loop (L := L) (x := x) (y := y) (most := most) (met := met) (line := rest) v hp ht hf (a12 := a12) (a13 := a13) with ⟨h1, a12', h2⟩ | ⟨h1, z, h2, hz⟩
  · refine .inl ⟨(differ_all hlt).mp h1, ?_⟩
    rw [List.all_eq_true] at h1
    obtain ⟨g', b12, b13, h3⟩ := push_loop (L := L) (x := x) (y := y) (most := most) (met := met) (line := rest) v hp ht (cs := from_ c L p.1) (fun ch hc => ⟨hf ch hc, of_decide_eq_true (h1 ch hc)⟩) g hl (a12 := a12') (a13 := a13)
    refine ⟨g', some (.d (nD p.1)), some (.d (nD p.2)), some (.d (rD tr)), some (.d (.list ((from_ c L p.1).map cD))), b12, b13, ?_⟩
    rw [a_Seq, h2, Option.bind_some]
    exact h3
  · refine .inr ⟨Classical.byContradiction fun hd => ?_, z, ?_, hz⟩
    · rw [(differ_all hlt).mpr hd] at h1
      cases h1
    · rw [a_Seq, h2]
      rfl
/-- what a turn adds -/
theorem fold_spec : ∀ (cs : List Ch) (met : List Pr) (line : List Item), ∃ new : List Item, cs.foldl (push c p tr) (met, line) = (met ++ new.map (·.1), line ++ new) ∧
    (∀ e ∈ new, e.2.length = tr.length + 1 ∧ ∃ ch ∈ cs, step c p.1 ch.2 = some e.1.1 ∧ step c p.2 ch.2 = some e.1.2) ∧ ∀ ch ∈ cs, ∀ a d, step c p.1 ch.2 = some a → step c p.2 ch.2 = some d → (a, d) ∈ met ++ new.map (·.1)
  | [], met, line => ⟨[], by simp, by simp, by simp⟩
  | ch :: cs, met, line => by
    have same : push c p tr (met, line) ch = (met, line) → (∀ a d, step c p.1 ch.2 = some a → step c p.2 ch.2 = some d → (a, d) ∈ met) → ∃ new : List Item, (ch :: cs).foldl (push c p tr) (met, line) = (met ++ new.map (·.1), line ++ new) ∧
        (∀ e ∈ new, e.2.length = tr.length + 1 ∧ ∃ ch' ∈ ch :: cs, step c p.1 ch'.2 = some e.1.1 ∧ step c p.2 ch'.2 = some e.1.2) ∧ ∀ ch' ∈ ch :: cs, ∀ a d, step c p.1 ch'.2 = some a → step c p.2 ch'.2 = some d → (a, d) ∈ met ++ new.map (·.1) := by
      intro e hin
      obtain ⟨new, h1, h2, h3⟩ := fold_spec cs met line
      refine ⟨new, by rw [List.foldl_cons, e, h1], fun e he => ?_, fun ch' hc a d ha hd => ?_⟩
      · obtain ⟨h4, ch', h5, h6⟩ := h2 e he
        exact ⟨h4, ch', List.mem_cons_of_mem _ h5, h6⟩
      · rcases List.mem_cons.mp hc with rfl | hc
        · exact List.mem_append_left _ (hin a d ha hd)
        · exact h3 ch' hc a d ha hd
    cases h1 : step c p.1 ch.2 with
    | none => exact same (by unfold push; rw [h1]) fun a d ha => by rw [h1] at ha; cases ha
    | some a =>
      cases h2 : step c p.2 ch.2 with
      | none => exact same (by unfold push; rw [h1, h2]) fun a d _ hd => by rw [h2] at hd; cases hd
      | some d =>
        by_cases hm : (a, d) ∈ met
        · refine same (by unfold push; simp only [h1, h2]; rw [if_pos hm]) fun a' d' ha hd => ?_
          rw [h1] at ha
          rw [h2] at hd
          cases ha
          cases hd
          exact hm
        · obtain ⟨new, h3, h4, h5⟩ := fold_spec cs (met ++ [(a, d)]) (line ++ [((a, d), tr ++ [ch])])
          have e : push c p tr (met, line) ch = (met ++ [(a, d)], line ++ [((a, d), tr ++ [ch])]) := by
            unfold push
            simp only [h1, h2]
            rw [if_neg hm]
          refine ⟨((a, d), tr ++ [ch]) :: new, ?_, fun e he => ?_, fun ch' hc a' d' ha hd => ?_⟩
          · rw [List.foldl_cons, e, h3, List.append_assoc, List.append_assoc]
            rfl
          · rcases List.mem_cons.mp he with rfl | he
            · exact ⟨by rw [List.length_append, List.length_singleton], ch, List.mem_cons_self .., h1, h2⟩
            · obtain ⟨h6, ch', h7, h8⟩ := h4 e he
              exact ⟨h6, ch', List.mem_cons_of_mem _ h7, h8⟩
          · have z : met ++ (((a, d), tr ++ [ch]) :: new).map (·.1) = met ++ [(a, d)] ++ new.map (·.1) := by rw [List.append_assoc]; rfl
            rw [z]
            rcases List.mem_cons.mp hc with rfl | hc
            · rw [h1] at ha
              rw [h2] at hd
              cases ha
              cases hd
              exact List.mem_append_left _ (List.mem_append_right _ (List.mem_singleton.mpr rfl))
            · exact h5 ch' hc a' d' ha hd
theorem pl_it {e : Item} : pl 3 (itD e) = true := by
  show [nD e.1.1, nD e.1.2, rD e.2].all (pl 2) = true
  rw [List.all_cons, List.all_cons, List.all_cons, pl_n, pl_n, pl_r (k := 0)]
  rfl
theorem more_eq {a8 a9 a10 a11 a12 a13 : Option Slot} : bMore (envT c L x y most met line a8 a9 a10 a11 a12 a13) = some (!decide (line = [])) := by
  have h : pl 4 (.list (line.map itD)) = true := pl_map (k := 3) (fun e => pl_it (e := e)) line
  refine test_eq (op_n rfl (lst_eq rfl) (neD_pl (n := 4) (p := line = []) (by decide) h rfl ?_))
  rw [PyData.list.injEq, List.map_eq_nil_iff]
inductive Reach (c : Case) (L : List Ch) (s : Pr) : Pr → Prop
  | refl : Reach c L s s
  | tail {p q : Pr} : Reach c L s p → Go c L p q → Reach c L s q
theorem Reach.ap {s p : Pr} (h : Reach c L s p) : ∀ k, Ap c L k p → ∃ k, Ap c L k s := by
  induction h with
  | refl => exact fun k a => ⟨k, a⟩
  | tail _ g ih => exact fun k a => ih (k + 1) ⟨_, g, a⟩
theorem while_step (n : Nat) {a8 a9 a10 a11 a12 a13 : Option Slot} : whileF bMore bTurn (n + 1) (envT c L x y most met line a8 a9 a10 a11 a12 a13) = if line = [] then some (.nx (envT c L x y most met line a8 a9 a10 a11 a12 a13)) else (bTurn (envT c L x y most met line a8 a9 a10 a11 a12 a13)).bind fun o => match o with
    | .nx ρ2 => whileF bMore bTurn n ρ2
    | .ct ρ2 => whileF bMore bTurn n ρ2
    | .bk ρ2 => some (.nx ρ2)
    | .rt x => some (.rt x) := by
  show (bMore _).bind _ = _
  rw [more_eq, Option.bind_some]
  by_cases h : line = []
  · rw [if_pos h, decide_eq_true h]
    rfl
  · rw [if_neg h, decide_eq_false h]
    rfl
theorem while_full (v : Val c) (hL : L.length ≤ 1000) (hlt : ∀ ch ∈ L, ch.2 < c.many) {s : Pr} : ∀ (n : Nat) (done met : List Pr) (line : List Item) (a8 a9 a10 a11 a12 a13 : Option Slot), met = done ++ line.map (·.1) → Good c met → s ∈ met → (∀ p ∈ met, Reach c L s p) →
    (∀ p ∈ done, ¬ Differ c L p ∧ ∀ q, Go c L p q → q ∈ met) → (∀ i e, line[i]? = some e → e.2.length ≤ done.length + i) → 146 ≤ n + done.length →
    (∃ z, whileF bMore bTurn n (envT c L x y 144 met line a8 a9 a10 a11 a12 a13) = some (.rt z) ∧ z ≠ .none ∧ ∃ k, Ap c L k s) ∨ (∃ ρ', whileF bMore bTurn n (envT c L x y 144 met line a8 a9 a10 a11 a12 a13) = some (.nx ρ') ∧ ∀ k, ¬ Ap c L k s) := by
  intro n
  induction n with
  | zero =>
    intro done met line a8 a9 a10 a11 a12 a13 e g _ _ _ _ hn
    have := g.len v
    rw [e, List.length_append] at this
    omega
  | succ n ih =>
    intro done met line a8 a9 a10 a11 a12 a13 e g hs hr hd ht hn
    have hg := g.len v
    have hmet : met.length = done.length + line.length := by rw [e, List.length_append, List.length_map]
    rw [while_step]
    cases line with
    | nil =>
      rw [if_pos rfl]
      refine .inr ⟨_, rfl, fun k => ?_⟩
      have hmd : met = done := by rw [e, List.map_nil, List.append_nil]
      have all : ∀ k p, p ∈ met → ¬ Ap c L k p := by
        intro k
        induction k with
        | zero => exact fun p hp => (hd p (by rw [← hmd]; exact hp)).1
        | succ k ihk =>
          rintro p hp ⟨q, hq, ha⟩
          exact ihk q ((hd p (by rw [← hmd]; exact hp)).2 q hq) ha
      exact all k s hs
    | cons it rest =>
      obtain ⟨p, tr⟩ := it
      rw [if_neg (fun z => nomatch z)]
      have hp : p ∈ met := by
        rw [e]
        exact List.mem_append_right _ (List.mem_cons_self ..)
      have htr := ht 0 (p, tr) rfl
      rw [List.length_cons] at hmet
      simp only at htr
      rcases turn_full (x := x) (y := y) (most := 144) (rest := rest) v (g.ok p hp) hL hlt (tr := tr) (by omega) (by omega) g (by omega) (a8 := a8) (a9 := a9) (a10 := a10) (a11 := a11) (a12 := a12) (a13 := a13) with ⟨hnd, g', b8, b9, b10, b11, b12, b13, h1⟩ | ⟨hdf, z, h1, hz⟩
      · rw [h1, Option.bind_some]
        obtain ⟨new, h2, h3, h4⟩ := fold_spec (c := c) (p := p) (tr := tr) (from_ c L p.1) met rest
        rw [h2] at g' ⊢
        have hgo : ∀ e ∈ new, Go c L p e.1 := fun e he => by
          obtain ⟨_, ch, hc, hs1, hs2⟩ := h3 e he
          obtain ⟨hc1, hc2⟩ := List.mem_filter.mp hc
          exact ⟨ch, hc1, of_decide_eq_true hc2, hs1, hs2⟩
        refine ih (done ++ [p]) _ _ b8 b9 b10 b11 b12 b13 ?_ g' (List.mem_append_left _ hs) (fun q hq => ?_) (fun q hq => ?_) (fun i e he => ?_) ?_
        · rw [e]
          simp
        · rcases List.mem_append.mp hq with hq | hq
          · exact hr q hq
          · obtain ⟨e, he, rfl⟩ := List.mem_map.mp hq
            exact .tail (hr p hp) (hgo e he)
        · rcases List.mem_append.mp hq with hq | hq
          · exact ⟨(hd q hq).1, fun r hr' => List.mem_append_left _ ((hd q hq).2 r hr')⟩
          · rw [List.mem_singleton] at hq
            subst hq
            refine ⟨hnd, fun r ⟨ch, hc1, hc2, hs1, hs2⟩ => ?_⟩
            exact h4 ch (List.mem_filter.mpr ⟨hc1, decide_eq_true hc2⟩) r.1 r.2 hs1 hs2
        · rw [List.length_append, List.length_singleton]
          rw [List.getElem?_append] at he
          split at he
          · have := ht (i + 1) e (by rw [List.getElem?_cons_succ]; exact he)
            omega
          · obtain ⟨h5, _⟩ := h3 e (List.mem_of_getElem? he)
            omega
        · rw [List.length_append, List.length_singleton]
          omega
      · rw [h1]
        exact .inl ⟨z, rfl, hz, (hr p hp).ap 0 hdf⟩
theorem while_cut (v : Val c) (hL : L.length ≤ 1000) : ∀ (n : Nat) (met : List Pr) (line : List Item) (a8 a9 a10 a11 a12 a13 : Option Slot), (∀ e ∈ line, Ok2 c e.1 ∧ most ≤ e.2.length) → line.length < n → ∃ ρ', whileF bMore bTurn n (envT c L x y most met line a8 a9 a10 a11 a12 a13) = some (.nx ρ') := by
  intro n
  induction n with
  | zero => intro met line _ _ _ _ _ _ _ h; omega
  | succ n ih =>
    intro met line a8 a9 a10 a11 a12 a13 h hn
    rw [while_step]
    cases line with
    | nil => exact ⟨_, if_pos rfl⟩
    | cons it rest =>
      obtain ⟨p, tr⟩ := it
      rw [if_neg (fun z => nomatch z)]
      obtain ⟨hp, htr⟩ := h (p, tr) (List.mem_cons_self ..)
      obtain ⟨b8, b9, b10, b11, b12, b13, h1⟩ := turn_cut (x := x) (y := y) (met := met) (rest := rest) v hp hL htr (a8 := a8) (a9 := a9) (a10 := a10) (a11 := a11) (a12 := a12) (a13 := a13)
      rw [h1, Option.bind_some]
      exact ih met rest b8 b9 b10 b11 b12 b13 (fun e he => h e (List.mem_cons_of_mem _ he)) (by rw [List.length_cons] at hn; omega)
end
theorem trail_start {c : Case} {L : List Ch} {x y most : Nat} : b_trail_between (startD 9 [caseD c, rD L, nD x, nD y, nD most]) = fSeq (fWhile 200 bMore bTurn) (fRet (fC .none)) (envT c L x y most [(x, y)] [((x, y), [])] none none none none none none) := by
  rw [trail_body, a_Seq]
  have e : fPar3 5 6 7 (fCons (fOp ixD (fOp ixD (fVar 0) (fC (.int 0))) (fC (.int 1))) (fCons (fLst (fCons (fTup (fCons (fVar 2) (fCons (fVar 3) (fNil)))) (fNil))) (fCons (fLst (fCons (fTup (fCons (fVar 2) (fCons (fVar 3) (fCons (fTup (fNil)) (fNil))))) (fNil))) (fNil)))) (startD 9 [caseD c, rD L, nD x, nD y, nD most]) = some (.nx (envT c L x y most [(x, y)] [((x, y), [])] none none none none none none)) := rfl
  rw [e]
  rfl
theorem trail_of {c : Case} {L : List Ch} {x y most : Nat} {P : Prop} (h : (∃ z, whileF bMore bTurn 200 (envT c L x y most [(x, y)] [((x, y), [])] none none none none none none) = some (.rt z) ∧ z ≠ .none ∧ P) ∨ (∃ ρ', whileF bMore bTurn 200 (envT c L x y most [(x, y)] [((x, y), [])] none none none none none none) = some (.nx ρ') ∧ ¬ P)) :
    ∃ r, F_trail_between [caseD c, rD L, nD x, nD y, nD most] = some r ∧ (isNoneD r = true ↔ ¬ P) := by
  unfold F_trail_between runF
  rw [trail_start, a_Seq]
  show ∃ r, endD ((whileF bMore bTurn 200 _).bind _) = some r ∧ _
  rcases h with ⟨z, h1, hz, hP⟩ | ⟨ρ', h1, hP⟩
  · rw [h1]
    refine ⟨z, rfl, ?_⟩
    have : isNoneD z = false := by cases z <;> first | rfl | exact absurd rfl hz
    rw [this]
    exact ⟨fun e => (Bool.false_ne_true e).elim, fun n => absurd hP n⟩
  · rw [h1]
    exact ⟨.none, rfl, ⟨fun _ => hP, fun _ => rfl⟩⟩
theorem ev_trail144 {c : Case} {L : List Ch} {x y : Nat} (v : Val c) (hL : L.length ≤ 1000) (hlt : ∀ ch ∈ L, ch.2 < c.many) (hp : Ok2 c (x, y)) : ∃ r, F_trail_between [caseD c, rD L, nD x, nD y, nD 144] = some r ∧ (isNoneD r = true ↔ ¬ ∃ k, Ap c L k (x, y)) := by
  refine trail_of ?_
  rcases while_full (x := x) (y := y) v hL hlt (s := (x, y)) 200 [] [(x, y)] [((x, y), [])] none none none none none none rfl ⟨by simp, fun p h => by rw [List.mem_singleton] at h; subst h; exact hp⟩ (List.mem_singleton.mpr rfl) (fun p h => by rw [List.mem_singleton] at h; subst h; exact .refl) (fun p h => nomatch h)
    (fun i e h => by
      match i, h with
      | 0, h => cases h; exact Nat.zero_le _
      | i + 1, h => cases h) (by decide) with ⟨z, h1, h2, h3⟩ | ⟨ρ', h1, h2⟩
  · exact .inl ⟨z, h1, h2, h3⟩
  · exact .inr ⟨ρ', h1, fun ⟨k, h⟩ => h2 k h⟩
theorem ev_trail1 {c : Case} {L : List Ch} {x y : Nat} (v : Val c) (hL : L.length ≤ 1000) (hlt : ∀ ch ∈ L, ch.2 < c.many) (hp : Ok2 c (x, y)) : ∃ r, F_trail_between [caseD c, rD L, nD x, nD y, nD 1] = some r ∧ (isNoneD r = true ↔ ¬ Differ c L (x, y)) := by
  refine trail_of ?_
  have g : Good c [(x, y)] := ⟨by simp, fun p h => by rw [List.mem_singleton] at h; subst h; exact hp⟩
  rw [while_step, if_neg (fun z => nomatch z)]
  rcases turn_full (x := x) (y := y) (most := 1) (met := [(x, y)]) (rest := []) v hp hL hlt (tr := []) (by decide) (by decide) g (Nat.zero_le _) (a8 := none) (a9 := none) (a10 := none) (a11 := none) (a12 := none) (a13 := none) with ⟨hnd, g', b8, b9, b10, b11, b12, b13, h1⟩ | ⟨hdf, z, h1, hz⟩
  · refine .inr ?_
    rw [h1, Option.bind_some]
    obtain ⟨new, h2, h3, h4⟩ := fold_spec (c := c) (p := (x, y)) (tr := []) (from_ c L x) [(x, y)] []
    have hl := g'.len v
    rw [h2] at g' hl ⊢
    simp only [List.nil_append] at g' hl ⊢
    obtain ⟨ρ', h5⟩ := while_cut (x := x) (y := y) (most := 1) v hL 199 ([(x, y)] ++ new.map (·.1)) new b8 b9 b10 b11 b12 b13 (fun e he => ⟨g'.ok e.1 (List.mem_append_right _ (List.mem_map.mpr ⟨e, he, rfl⟩)), by rw [(h3 e he).1]; decide⟩) (by rw [List.length_append, List.length_map] at hl; omega)
    exact ⟨ρ', h5, hnd⟩
  · rw [h1]
    exact .inl ⟨z, rfl, hz, hdf⟩
end DL
/-! P6: near. -/
namespace DL
open PySem L2
/-- a loop that may give back something that is Y -/
theorem for_retY {α : Type} {pg : PGd} {body : FSt} {Y : PyData → Prop} (en : α → PyData) (R : DEnv → Prop) (good : α → Bool) : ∀ (xs : List α) (ρ : DEnv), (∀ x ρ, x ∈ xs → R ρ → ∃ ρ1, pg (en x) ρ = some ρ1 ∧ ((good x = false ∧ ∃ ρ2, body ρ1 = some (.nx ρ2) ∧ R ρ2) ∨ (good x = true ∧ ∃ y, body ρ1 = some (.rt y) ∧ Y y))) → R ρ →
    (xs.any good = false ∧ ∃ ρ', forF pg body (xs.map en) ρ = some (.nx ρ') ∧ R ρ') ∨ (xs.any good = true ∧ ∃ y, forF pg body (xs.map en) ρ = some (.rt y) ∧ Y y)
  | [], ρ, _, r => .inl ⟨rfl, ρ, rfl, r⟩
  | x :: xs, ρ, h, r => by
    obtain ⟨ρ1, h1, h2⟩ := h x ρ (List.mem_cons_self ..) r
    have e : forF pg body ((x :: xs).map en) ρ = (body ρ1).bind fun o => match o with
        | .nx ρ2 => forF pg body (xs.map en) ρ2
        | .ct ρ2 => forF pg body (xs.map en) ρ2
        | .bk ρ2 => some (.nx ρ2)
        | .rt x => some (.rt x) := by
      show (pg (en x) ρ).bind _ = _
      rw [h1]
      rfl
    rw [e, List.any_cons]
    rcases h2 with ⟨hb, ρ2, h2, r2⟩ | ⟨hb, y, h2, hy⟩
    · rw [h2, hb, Option.bind_some, Bool.false_or]
      exact for_retY en R good xs ρ2 (fun y ρ hy => h y ρ (List.mem_cons_of_mem _ hy)) r2
    · rw [h2, hb]
      exact .inr ⟨rfl, y, rfl, hy⟩
def getT (f : Far) (a b : Option Nat) : Int := match a, b with
  | some a, some b => (lookF f ((a : Int), (b : Int))).getD 0
  | _, _ => 0
theorem getFD_o (f : Far) (a b : Option Nat) : getFD f (.tuple [oD a, oD b]) (.int 0) = some (.int (getT f a b)) := by
  cases a with
  | none => cases b <;> rfl
  | some a => cases b with
    | none => rfl
    | some b =>
      show some (match lookF f ((a : Int), (b : Int)) with | some n => PyData.int n | none => .int 0) = some (.int ((lookF f ((a : Int), (b : Int))).getD 0))
      cases lookF f ((a : Int), (b : Int)) <;> rfl
def nearT (c : Case) (f : Far) (p : Pr) (t : Nat) (ch : Ch) : Bool := decide (c.row[p.1]? = some ch.1) && ((decide (t = 1) && !decide (ans c p.1 ch.2 = ans c p.2 ch.2)) || (decide (1 < t) && decide (getT f (step c p.1 ch.2) (step c p.2 ch.2) = (t : Int) - 1)))
def envN (c : Case) (L : List Ch) (f : Far) (p : Pr) (t : Nat) (a : Option Slot) : DEnv := [some (.d (caseD c)), some (.d (rD L)), some (.far f), some (.d (nD p.1)), some (.d (nD p.2)), some (.d (nD t)), a]
def nOne : FTt := fAnd (fTest (fOp (eqD) (fVar 5) (fC (.int 1)))) (fTest (fOp (neD) (fCall F_law_answer (fCons (fVar 0) (fCons (fVar 3) (fCons (fVar 6) (fNil))))) (fCall F_law_answer (fCons (fVar 0) (fCons (fVar 4) (fCons (fVar 6) (fNil)))))))
def nMore : FTt := fAnd (fTest (fOp (cmpD fun i j => decide (j < i)) (fVar 5) (fC (.int 1)))) (fTest (fOp (eqD) (fGetF 2 (fTup (fCons (fCall F_law_behind (fCons (fVar 0) (fCons (fVar 3) (fCons (fVar 6) (fNil))))) (fCons (fCall F_law_behind (fCons (fVar 0) (fCons (fVar 4) (fCons (fVar 6) (fNil))))) (fNil)))) (fC (.int 0))) (fOp subD (fVar 5) (fC (.int 1)))))
def nBody : FSt := fIfS (fTest (fOp (eqD) (fOp ixD (fVar 6) (fC (.int 0))) (fOp ixD (fOp ixD (fOp ixD (fVar 0) (fC (.int 0))) (fC (.int 1))) (fVar 3)))) (fSeq (fIfS nOne (fRet (fC (.bool true))) (fNext)) (fIfS nMore (fRet (fC (.bool true))) (fNext))) (fNext)
theorem near_body : b_law_is_near = fSeq (fFor (fItT (fVar 1)) (pgName 6) nBody) (fRet (fC (.bool false))) := rfl
section
variable {c : Case} {L : List Ch} {f : Far} {p : Pr} {t : Nat} {ch : Ch}
theorem eqI {a b : Int} : eqD (.int a) (.int b) = some (.bool (decide (a = b))) := eqD_pl (n := 0) (by decide) rfl rfl (PyData.int.injEq a b).to_iff
theorem nOne_eq (v : Val c) (hp : Ok2 c p) (hc : ch.2 < c.many) : nOne (envN c L f p t (some (.d (cD ch)))) = some (decide (t = 1) && !decide (ans c p.1 ch.2 = ans c p.2 ch.2)) := by
  unfold nOne
  have e : eqD (nD t) (.int 1) = some (.bool (decide (t = 1))) := by
    rw [eqI]
    congr 2
    rw [decide_eq_decide]
    omega
  rw [a_And, test_eq (op_n rfl rfl e), Option.bind_some]
  by_cases h : t = 1
  · rw [decide_eq_true h, if_pos rfl, Bool.true_and]
    exact test_eq (op_n (call_eq (cons_eq rfl (cons_eq rfl (cons_eq rfl rfl))) (ev_law_answer v hp.1 hc)) (call_eq (cons_eq rfl (cons_eq rfl (cons_eq rfl rfl))) (ev_law_answer v hp.2.1 hc)) (neD_pl (n := 0) (by decide) pl_o pl_o oD_inj))
  · rw [decide_eq_false h, if_neg Bool.false_ne_true, Bool.false_and]
theorem nMore_eq (v : Val c) (hp : Ok2 c p) (hc : ch.2 < c.many) : nMore (envN c L f p t (some (.d (cD ch)))) = some (decide (1 < t) && decide (getT f (step c p.1 ch.2) (step c p.2 ch.2) = (t : Int) - 1)) := by
  unfold nMore
  have e : cmpD (fun i j => decide (j < i)) (nD t) (.int 1) = some (.bool (decide (1 < t))) := by
    show some (PyData.bool (decide ((1 : Int) < (t : Int)))) = _
    congr 2
    rw [decide_eq_decide]
    omega
  rw [a_And, test_eq (op_n rfl rfl e), Option.bind_some]
  by_cases h : 1 < t
  · rw [decide_eq_true h, if_pos rfl, Bool.true_and]
    refine test_eq (op_n (y := .int ((t : Int) - 1)) ?_ (op_n rfl rfl rfl) eqI)
    have e1 := tup_eq (cons_eq (call_eq (cons_eq rfl (cons_eq rfl (cons_eq rfl rfl))) (ev_law_behind v hp.1 hc)) (cons_eq (call_eq (cons_eq rfl (cons_eq rfl (cons_eq rfl rfl))) (ev_law_behind v hp.2.1 hc)) rfl) : fCons (fCall F_law_behind (fCons (fVar 0) (fCons (fVar 3) (fCons (fVar 6) (fNil))))) (fCons (fCall F_law_behind (fCons (fVar 0) (fCons (fVar 4) (fCons (fVar 6) (fNil))))) (fNil)) (envN c L f p t (some (.d (cD ch)))) = some [oD (step c p.1 ch.2), oD (step c p.2 ch.2)])
    show (fTup _ (envN c L f p t (some (.d (cD ch))))).bind _ = _
    rw [e1]
    exact getFD_o f _ _
  · rw [decide_eq_false h, if_neg Bool.false_ne_true, Bool.false_and]
theorem nBody_eq (v : Val c) (hp : Ok2 c p) (hc : ch.2 < c.many) : nBody (envN c L f p t (some (.d (cD ch)))) = if nearT c f p t ch = true then some (.rt (.bool true)) else some (.nx (envN c L f p t (some (.d (cD ch))))) := by
  unfold nBody nearT
  have e : eqD (nD ch.1) (nD (c.row[p.1]'hp.1)) = some (.bool (decide (c.row[p.1]? = some ch.1))) := by
    refine eqD_pl (n := 0) (by decide) pl_n pl_n ?_
    have hr : c.row[p.1]? = some (c.row[p.1]'hp.1) := List.getElem?_eq_getElem hp.1
    rw [nD_inj]
    generalize c.row[p.1]'hp.1 = w at hr ⊢
    rw [hr, Option.some.injEq]
    exact eq_comm
  rw [a_IfS, test_eq (op_n (op_n rfl rfl (ixT0 _)) (op_n rfl rfl (ix_nat hp.1)) e), Option.bind_some]
  by_cases h : c.row[p.1]? = some ch.1
  · rw [decide_eq_true h, if_pos rfl, Bool.true_and, a_Seq, a_IfS, nOne_eq v hp hc, Option.bind_some]
    generalize (decide (t = 1) && !decide (ans c p.1 ch.2 = ans c p.2 ch.2)) = b1
    cases b1 with
    | true => rfl
    | false =>
      rw [if_neg Bool.false_ne_true, Bool.false_or]
      show fIfS nMore _ _ _ = _
      rw [a_IfS, nMore_eq v hp hc, Option.bind_some]
      generalize (decide (1 < t) && decide (getT f (step c p.1 ch.2) (step c p.2 ch.2) = (t : Int) - 1)) = b2
      cases b2 <;> rfl
  · rw [decide_eq_false h, if_neg Bool.false_ne_true, Bool.false_and, if_neg Bool.false_ne_true]
    rfl
theorem ev_near (v : Val c) (hp : Ok2 c p) (hlt : ∀ ch ∈ L, ch.2 < c.many) : runS 1 b_law_is_near [.d (caseD c), .d (rD L), .far f, .d (nD p.1), .d (nD p.2), .d (nD t)] = some (.bool (L.any (nearT c f p t))) := by
  have h := for_retY (pg := pgName 6) (body := nBody) (Y := fun y => y = .bool true) cD (fun ρ => ∃ a, ρ = envN c L f p t a) (nearT c f p t) L (envN c L f p t none) (fun ch ρ hc hr => by
    obtain ⟨a, e⟩ := hr
    subst e
    refine ⟨envN c L f p t (some (.d (cD ch))), rfl, ?_⟩
    rw [nBody_eq v hp (hlt ch hc)]
    cases hb : nearT c f p t ch with
    | true => exact .inr ⟨rfl, _, rfl, rfl⟩
    | false => exact .inl ⟨rfl, _, rfl, _, rfl⟩) ⟨none, rfl⟩
  unfold runS
  rw [near_body, a_Seq]
  show endD ((forF (pgName 6) nBody (L.map cD) (envN c L f p t none)).bind _) = _
  rcases h with ⟨h1, ρ', h2, _⟩ | ⟨h1, y, h2, hy⟩
  · rw [h2, h1]
    rfl
  · rw [h2, h1, hy]
    rfl
/-! ### whether a pair is taken at a turn -/
abbrev castP (p : Pr) : Int × Int := ((p.1 : Int), (p.2 : Int))
def takeT (c : Case) (L : List Ch) (f : Far) (t : Nat) (p : Pr) : Bool := decide (c.row[p.1]? = c.row[p.2]?) && (!(lookF f (castP p)).isSome && L.any (nearT c f p t))
theorem ev_take (v : Val c) (h1 : p.1 < c.row.length) (h2 : p.2 < c.row.length) (hlt : ∀ ch ∈ L, ch.2 < c.many) {mo : PyData} : farC (envF (caseD c) (rD L) mo (.tuple (c.row.map nD)) (some (.far f)) (some (.d (nD t))) none (some (.d (nD p.1))) (some (.d (nD p.2)))) = some (takeT c L f t p) := by
  unfold farC takeT
  rw [a_And, test_eq (op_n (op_n rfl rfl (ix_nat h1)) (op_n rfl rfl (ix_nat h2)) (eq_at h1 h2)), Option.bind_some]
  by_cases h : c.row[p.1]? = c.row[p.2]?
  · rw [decide_eq_true h, if_pos rfl, Bool.true_and, a_And]
    have e : fNotFar 4 (fTup (fCons (fVar 7) (fCons (fVar 8) (fNil)))) (envF (caseD c) (rD L) mo (.tuple (c.row.map nD)) (some (.far f)) (some (.d (nD t))) none (some (.d (nD p.1))) (some (.d (nD p.2)))) = some (!(lookF f (castP p)).isSome) := rfl
    rw [e, Option.bind_some]
    cases (lookF f (castP p)).isSome with
    | true => rfl
    | false =>
      rw [Bool.not_false, if_pos rfl, Bool.true_and]
      refine test_eq ?_
      have := ev_near (L := L) (f := f) (t := t) v (p := p) ⟨h1, h2, h⟩ hlt
      exact this
  · rw [decide_eq_false h, if_neg Bool.false_ne_true, Bool.false_and]
end
end DL
/-! P7: far, turn by turn. -/
namespace DL
open PySem L2
section
variable {c : Case} {L : List Ch} {f : Far} {p : Pr} {t : Nat}
theorem step_fold {q : PyData → PyData → Option Bool} {i : Nat} (T : Nat → Bool) : ∀ (js : List Nat) (acc : Prs), (∀ j ∈ js, q (nD i) (nD j) = some (T j)) → acc.length + js.length ≤ 1000 → (js.map nD).foldlM (stepF q (nD i)) acc = some (acc ++ (js.filter T).map fun j => castP (i, j))
  | [], acc, _, _ => by simp
  | j :: js, acc, h, hl => by
    rw [List.length_cons] at hl
    rw [List.map_cons, List.foldlM_cons]
    have e : stepF q (nD i) acc (nD j) = some (if T j = true then acc ++ [castP (i, j)] else acc) := by
      unfold stepF
      rw [h j (List.mem_cons_self ..), Option.bind_some]
      cases T j with
      | true =>
        rw [if_pos rfl, if_pos rfl]
        show (if acc.length < 1000 then _ else none) = _
        rw [if_pos (by omega)]
      | false => rfl
    rw [e]
    show (js.map nD).foldlM (stepF q (nD i)) (if T j = true then acc ++ [castP (i, j)] else acc) = _
    rw [List.filter_cons]
    cases T j with
    | true =>
      rw [if_pos rfl, if_pos rfl, step_fold T js _ (fun j hj => h j (List.mem_cons_of_mem _ hj)) (by rw [List.length_append, List.length_singleton]; omega), List.append_assoc]
      rfl
    | false =>
      rw [if_neg Bool.false_ne_true, if_neg Bool.false_ne_true]
      exact step_fold T js _ (fun j hj => h j (List.mem_cons_of_mem _ hj)) (by omega)
theorem rows_fold {q : PyData → PyData → Option Bool} {js : List Nat} (T : Nat → Nat → Bool) : ∀ (is : List Nat) (acc : Prs), (∀ i ∈ is, ∀ j ∈ js, q (nD i) (nD j) = some (T i j)) → acc.length + is.length * js.length ≤ 900 → js.length ≤ 100 → (is.map nD).foldlM (rowF q (js.map nD)) acc = some (acc ++ is.flatMap fun i => (js.filter (T i)).map fun j => castP (i, j))
  | [], acc, _, _, _ => by simp
  | i :: is, acc, h, hl, hj => by
    rw [List.length_cons, Nat.succ_mul] at hl
    rw [List.map_cons, List.foldlM_cons]
    have e : rowF q (js.map nD) acc (nD i) = some (acc ++ (js.filter (T i)).map fun j => castP (i, j)) := step_fold (T i) js acc (h i (List.mem_cons_self ..)) (by omega)
    have hle := List.length_filter_le (T i) js
    rw [e]
    show (is.map nD).foldlM (rowF q (js.map nD)) (acc ++ (js.filter (T i)).map fun j => castP (i, j)) = _
    rw [rows_fold T is _ (fun i hi => h i (List.mem_cons_of_mem _ hi)) (by rw [List.length_append, List.length_map]; omega) hj, List.flatMap_cons, List.append_assoc]
def fndT (c : Case) (L : List Ch) (f : Far) (t : Nat) : List Pr := (List.range c.row.length).flatMap fun i => ((List.range c.row.length).filter fun j => takeT c L f t (i, j)).map fun j => (i, j)
theorem mem_fnd : p ∈ fndT c L f t ↔ p.1 < c.row.length ∧ p.2 < c.row.length ∧ takeT c L f t p = true := by
  unfold fndT
  rw [List.mem_flatMap]
  constructor
  · rintro ⟨i, hi, hp⟩
    obtain ⟨j, hj, e⟩ := List.mem_map.mp hp
    subst e
    obtain ⟨h1, h2⟩ := List.mem_filter.mp hj
    exact ⟨List.mem_range.mp hi, List.mem_range.mp h1, h2⟩
  · rintro ⟨h1, h2, h3⟩
    exact ⟨p.1, List.mem_range.mpr h1, List.mem_map.mpr ⟨p.2, List.mem_filter.mpr ⟨List.mem_range.mpr h2, h3⟩, rfl⟩⟩
theorem ev_found (v : Val c) (hlt : ∀ ch ∈ L, ch.2 < c.many) {mo : PyData} : foundF (fun i j => farC (envF (caseD c) (rD L) mo (.tuple (c.row.map nD)) (some (.far f)) (some (.d (nD t))) none (some (.d i)) (some (.d j)))) ((List.range c.row.length).map nD) = some ((fndT c L f t).map castP) := by
  have hn := v.n
  have hm : c.row.length * c.row.length ≤ 12 * 12 := Nat.mul_le_mul hn hn
  unfold foundF
  rw [rows_fold (js := List.range c.row.length) (fun i j => takeT c L f t (i, j)) (List.range c.row.length) [] (fun i hi j hj => ev_take v (p := (i, j)) (List.mem_range.mp hi) (List.mem_range.mp hj) hlt) (by rw [List.length_range]; show 0 + _ ≤ _; omega) (by rw [List.length_range]; omega), List.nil_append]
  unfold fndT
  rw [List.map_flatMap]
  simp only [List.map_map]
  rfl
/-! ### the dict -/
theorem look_any (k : Int × Int) : ∀ f : Far, (f.any fun p => decide (p.1 = k)) = (lookF f k).isSome
  | [] => rfl
  | p :: f => by
    rw [lookF_cons, List.any_cons, look_any k f]
    by_cases h : p.1 = k
    · rw [if_pos h, decide_eq_true h]
      rfl
    · rw [if_neg h, decide_eq_false h, Bool.false_or]
theorem look_map (k k' : Int × Int) (t : Int) : ∀ f : Far, lookF (f.map fun p => if p.1 = k then (p.1, t) else p) k' = (lookF f k').map fun v => if k' = k then t else v
  | [] => rfl
  | p :: f => by
    rw [List.map_cons, lookF_cons, lookF_cons, look_map k k' t f]
    by_cases h : p.1 = k
    · rw [if_pos h]
      by_cases h2 : p.1 = k'
      · rw [if_pos h2, if_pos h2, Option.map_some, if_pos (h2.symm.trans h)]
      · rw [if_neg h2, if_neg h2]
    · rw [if_neg h]
      by_cases h2 : p.1 = k'
      · rw [if_pos h2, if_pos h2, Option.map_some, if_neg (fun z => h (h2.trans z))]
      · rw [if_neg h2, if_neg h2]
theorem look_app (k k' : Int × Int) (t : Int) : ∀ f : Far, lookF (f ++ [(k, t)]) k' = if (lookF f k').isSome = true then lookF f k' else if k = k' then some t else none
  | [] => by
    show lookF [(k, t)] k' = _
    rw [lookF_cons]
    rfl
  | p :: f => by
    rw [List.cons_append, lookF_cons, lookF_cons, look_app k k' t f]
    by_cases h : p.1 = k'
    · rw [if_pos h, if_pos h]
      rfl
    · rw [if_neg h, if_neg h]
theorem look_put (k k' : Int × Int) (t : Int) (f : Far) : lookF (putF f k t) k' = if k' = k then some t else lookF f k' := by
  unfold putF
  rw [look_any]
  by_cases hs : (lookF f k).isSome = true
  · rw [if_pos hs, look_map]
    by_cases h : k' = k
    · rw [if_pos h, h]
      obtain ⟨w, hw⟩ := Option.isSome_iff_exists.mp hs
      rw [hw, Option.map_some, if_pos rfl]
    · rw [if_neg h]
      cases lookF f k' with
      | none => rfl
      | some w => rw [Option.map_some, if_neg h]
  · rw [if_neg hs, look_app]
    by_cases h : k' = k
    · rw [h, if_neg hs, if_pos rfl, if_pos rfl]
    · rw [if_neg h]
      by_cases h2 : (lookF f k').isSome = true
      · rw [if_pos h2]
      · rw [if_neg h2, if_neg (fun z => h z.symm)]
        cases h3 : lookF f k' with
        | none => rfl
        | some w => rw [h3] at h2; exact absurd rfl h2
structure FarI (c : Case) (f : Far) : Prop where
  nd : (f.map (·.1)).Nodup
  ok : ∀ k ∈ f.map (·.1), ∃ p : Pr, k = castP p ∧ p.1 < c.row.length ∧ p.2 < c.row.length
theorem FarI.len (v : Val c) (g : FarI c f) : f.length ≤ 144 := by
  have hn := v.n
  have h0 : List.Pairwise (fun a b => a ≠ b) (f.map (·.1)) := g.nd
  have h1 : ((f.map (·.1)).map fun k : Int × Int => ((k.1.toNat, k.2.toNat) : Pr)).Nodup := by
    refine List.pairwise_map.mpr (List.Pairwise.imp_of_mem ?_ h0)
    intro a b ha hb hne e
    apply hne
    obtain ⟨p, rfl, _⟩ := g.ok a ha
    obtain ⟨q, rfl, _⟩ := g.ok b hb
    injection e with e1 e2
    show ((p.1 : Int), (p.2 : Int)) = ((q.1 : Int), (q.2 : Int))
    rw [show p.1 = q.1 from e1, show p.2 = q.2 from e2]
  have h := pairs_len h1 fun p hp => by
    obtain ⟨k, hk, e⟩ := List.mem_map.mp hp
    obtain ⟨q, rfl, h1, h2⟩ := g.ok k hk
    subst e
    show q.1 < 12 ∧ q.2 < 12
    omega
  rw [List.length_map, List.length_map] at h
  exact h
theorem put_keys (k : Int × Int) (t : Int) (f : Far) : (putF f k t).map (·.1) = if (lookF f k).isSome = true then f.map (·.1) else f.map (·.1) ++ [k] := by
  unfold putF
  rw [look_any]
  split
  · rw [List.map_map]
    refine List.map_congr_left fun p _ => ?_
    show (if p.1 = k then (p.1, t) else p).1 = p.1
    split <;> rfl
  · rw [List.map_append]
    rfl
theorem mem_look (k : Int × Int) : ∀ f : Far, k ∈ f.map (·.1) ↔ (lookF f k).isSome = true
  | [] => by simp [lookF]
  | p :: f => by
    rw [List.map_cons, List.mem_cons, mem_look k f, lookF_cons]
    by_cases h : p.1 = k
    · rw [if_pos h]
      exact ⟨fun _ => rfl, fun _ => .inl h.symm⟩
    · rw [if_neg h]
      exact ⟨fun z => z.elim (fun e => absurd e.symm h) id, .inr⟩
theorem FarI.put (g : FarI c f) (h1 : p.1 < c.row.length) (h2 : p.2 < c.row.length) (t : Int) : FarI c (putF f (castP p) t) := by
  have e := put_keys (castP p) t f
  by_cases hs : (lookF f (castP p)).isSome = true
  · rw [if_pos hs] at e
    exact ⟨by rw [e]; exact g.nd, by rw [e]; exact g.ok⟩
  · rw [if_neg hs] at e
    refine ⟨?_, ?_⟩
    · rw [e]
      refine List.nodup_append.mpr ⟨g.nd, by simp, fun z hz w hw => ?_⟩
      rw [List.mem_singleton] at hw
      subst hw
      exact fun e => hs ((mem_look _ f).mp (by rw [← e]; exact hz))
    · rw [e]
      intro k hk
      rcases List.mem_append.mp hk with hk | hk
      · exact g.ok k hk
      · rw [List.mem_singleton] at hk
        exact ⟨p, hk, h1, h2⟩
theorem put_len (k : Int × Int) (t : Int) (f : Far) : (putF f k t).length = if (lookF f k).isSome = true then f.length else f.length + 1 := by
  have e := congrArg List.length (put_keys k t f)
  rw [List.length_map] at e
  rw [e]
  split
  · rw [List.length_map]
  · rw [List.length_append, List.length_map, List.length_singleton]
theorem puts_ok (v : Val c) (t : Int) : ∀ (ks : List Pr) (f : Far), FarI c f → (∀ p ∈ ks, p.1 < c.row.length ∧ p.2 < c.row.length) → ∃ f', putsF t (ks.map castP) f = some f' ∧ FarI c f' ∧ (∀ p : Pr, lookF f' (castP p) = if p ∈ ks then some t else lookF f (castP p)) ∧ f.length ≤ f'.length ∧ ∀ p r, ks = p :: r → lookF f (castP p) = none → f.length < f'.length
  | [], f, g, _ => ⟨f, rfl, g, fun p => by simp, Nat.le_refl _, fun p r e => nomatch e⟩
  | q :: ks, f, g, h => by
    obtain ⟨h1, h2⟩ := h q (List.mem_cons_self ..)
    have hl := g.len v
    obtain ⟨f', e, g', hf, hle, _⟩ := puts_ok v t ks (putF f (castP q) t) (g.put h1 h2 t) fun p hp => h p (List.mem_cons_of_mem _ hp)
    have hpl := put_len (castP q) t f
    refine ⟨f', ?_, g', fun p => ?_, ?_, fun p r ep hn => ?_⟩
    · show (if f.length < 1000 then putsF t (ks.map castP) (putF f (castP q) t) else none) = _
      rw [if_pos (by omega)]
      exact e
    · rw [hf, look_put]
      by_cases hp : p ∈ ks
      · rw [if_pos hp, if_pos (List.mem_cons_of_mem _ hp)]
      · rw [if_neg hp]
        by_cases hq : p = q
        · subst hq
          rw [if_pos rfl, if_pos (List.mem_cons_self ..)]
        · rw [if_neg, if_neg]
          · intro z
            rcases List.mem_cons.mp z with z | z
            · exact hq z
            · exact hp z
          · intro z
            injection z with z1 z2
            exact hq (Prod.ext (Int.ofNat.inj z1) (Int.ofNat.inj z2))
    · split at hpl <;> omega
    · cases ep
      rw [hn] at hpl
      rw [if_neg (by simp)] at hpl
      omega
/-! ### levels -/
def Min (c : Case) (L : List Ch) (m : Nat) (p : Pr) : Prop := Ap c L m p ∧ ∀ m' < m, ¬ Ap c L m' p
theorem min_of : ∀ (k : Nat), Ap c L k p → ∃ m ≤ k, Min c L m p := by
  intro k
  induction k using Nat.strongRecOn with
  | ind k ih =>
    intro h
    by_cases hm : ∃ m, m < k ∧ Ap c L m p
    · obtain ⟨m, hm, ha⟩ := hm
      obtain ⟨m', h1, h2⟩ := ih m hm ha
      exact ⟨m', by omega, h2⟩
    · exact ⟨k, Nat.le_refl _, h, fun m hlt ha => hm ⟨m, hlt, ha⟩⟩
theorem min_uniq {a b : Nat} (h1 : Min c L a p) (h2 : Min c L b p) : a = b := by
  rcases Nat.lt_trichotomy a b with h | h | h
  · exact absurd h1.1 (h2.2 a h)
  · exact h
  · exact absurd h2.1 (h1.2 b h)
theorem min_go {m : Nat} (v : Val c) (h : Min c L (m + 1) p) : ∃ q, Go c L p q ∧ Ok2 c q ∧ Min c L m q := by
  obtain ⟨⟨q, hg, ha⟩, hm⟩ := h
  refine ⟨q, hg, go_ok v hg, ha, fun m' hlt ha' => hm (m' + 1) (by omega) ⟨q, hg, ha'⟩⟩
theorem min_down (v : Val c) : ∀ (d m : Nat) (p : Pr), Ok2 c p → Min c L (m + d) p → ∃ q, Ok2 c q ∧ Min c L m q
  | 0, m, p, h, hm => ⟨p, h, hm⟩
  | d + 1, m, p, h, hm => by
    obtain ⟨q, _, h1, h2⟩ := min_go v (m := m + d) hm
    exact min_down v d m q h1 h2
def Lev (c : Case) (L : List Ch) (f : Far) (t : Nat) : Prop := ∀ (p : Pr) (k : Int), lookF f (castP p) = some k ↔ ∃ m : Nat, k = (m : Int) + 1 ∧ m + 1 < t ∧ Ok2 c p ∧ Min c L m p
theorem take_iff (v : Val c) (hlev : Lev c L f t) (ht : 1 ≤ t) (h1 : p.1 < c.row.length) (h2 : p.2 < c.row.length) : takeT c L f t p = true ↔ Ok2 c p ∧ Min c L (t - 1) p := by
  unfold takeT
  rw [Bool.and_eq_true, Bool.and_eq_true, decide_eq_true_eq, Bool.not_eq_true', List.any_eq_true]
  have hnone : (lookF f (castP p)).isSome = false ↔ ∀ m, m + 1 < t → Ok2 c p → ¬ Min c L m p := by
    constructor
    · intro hs m hm ho hmin
      have := (hlev p ((m : Int) + 1)).mpr ⟨m, rfl, hm, ho, hmin⟩
      rw [this] at hs
      cases hs
    · intro hall
      cases hs : lookF f (castP p) with
      | none => rfl
      | some k =>
        obtain ⟨m, _, hm, ho, hmin⟩ := (hlev p k).mp hs
        exact absurd hmin (hall m hm ho)
  constructor
  · rintro ⟨hr, hn, ch, hc, hnear⟩
    have ho : Ok2 c p := ⟨h1, h2, hr⟩
    have hno : ∀ m, m + 1 < t → ¬ Ap c L m p := fun m hm ha => by
      obtain ⟨m', hle, hmin⟩ := min_of m ha
      exact hnone.mp hn m' (by omega) ho hmin
    refine ⟨ho, ?_, fun m' hlt => hno m' (by omega)⟩
    unfold nearT at hnear
    rw [Bool.and_eq_true, decide_eq_true_eq, Bool.or_eq_true, Bool.and_eq_true, Bool.and_eq_true, decide_eq_true_eq, decide_eq_true_eq, decide_eq_true_eq, Bool.not_eq_true', decide_eq_false_iff_not] at hnear
    obtain ⟨hrow, ⟨ht1, hne⟩ | ⟨ht1, hg⟩⟩ := hnear
    · rw [ht1]
      exact ⟨ch, hc, hrow, hne⟩
    · unfold getT at hg
      split at hg
      · rename_i a b ha hb
        cases hl : lookF f ((a : Int), (b : Int)) with
        | none =>
          rw [hl] at hg
          simp at hg
          omega
        | some k =>
          obtain ⟨m, e, hm, _, hmin⟩ := (hlev (a, b) k).mp hl
          rw [hl, Option.getD_some] at hg
          have : t - 1 = m + 1 := by omega
          rw [this]
          exact ⟨(a, b), ⟨ch, hc, hrow, ha, hb⟩, hmin.1⟩
      · omega
  · rintro ⟨ho, hmin⟩
    refine ⟨ho.2.2, hnone.mpr fun m hm _ hm2 => ?_, ?_⟩
    · have := min_uniq hmin hm2
      omega
    · by_cases ht1 : t = 1
      · have h0 : Ap c L 0 p := by
          have := hmin.1
          rw [ht1] at this
          exact this
        obtain ⟨ch, hc, hrow, hne⟩ := h0
        refine ⟨ch, hc, ?_⟩
        unfold nearT
        rw [decide_eq_true hrow, decide_eq_true ht1, decide_eq_false hne]
        rfl
      · obtain ⟨q, ⟨ch, hc, hrow, ha, hb⟩, hq, hmq⟩ := min_go v (m := t - 2) (p := p) (by rw [show t - 2 + 1 = t - 1 by omega]; exact hmin)
        refine ⟨ch, hc, ?_⟩
        have hl := (hlev q (((t - 2 : Nat) : Int) + 1)).mpr ⟨t - 2, rfl, by omega, hq, hmq⟩
        unfold nearT
        rw [decide_eq_true hrow, ha, hb, decide_eq_true (show 1 < t by omega)]
        have : getT f (some q.1) (some q.2) = (t : Int) - 1 := by
          show (lookF f ((q.1 : Int), (q.2 : Int))).getD 0 = _
          rw [show lookF f ((q.1 : Int), (q.2 : Int)) = some (((t - 2 : Nat) : Int) + 1) from hl, Option.getD_some]
          omega
        rw [decide_eq_true this]
        simp
theorem ev_farQ {mo : PyData} {ps : List Pr} : farQ (envF (caseD c) (rD L) mo (.tuple (c.row.map nD)) none none (some (.d (.list (prsD (ps.map castP))))) none none) = some (decide (ps = [])) := by
  have e : prsD (ps.map castP) = ps.map pD := by
    unfold prsD
    rw [List.map_map]
    rfl
  rw [e]
  have h : pl 2 (.list (ps.map pD)) = true := pl_map (k := 1) (f := pD) (fun _ => pl_c) ps
  refine test_eq (op_n rfl (lst_eq rfl) (eqD_pl (n := 2) (p := ps = []) (by decide) h rfl ?_))
  rw [PyData.list.injEq, List.map_eq_nil_iff]
theorem turns_ok (v : Val c) (hlt : ∀ ch ∈ L, ch.2 < c.many) {mo : PyData} : ∀ (r t : Nat) (f : Far), 1 ≤ t → FarI c f → Lev c L f t → t ≤ f.length + 1 →
    ∃ f', turnsF (fun f t i j => farC (envF (caseD c) (rD L) mo (.tuple (c.row.map nD)) (some (.far f)) (some (.d t)) none (some (.d i)) (some (.d j)))) (fun x => farQ (envF (caseD c) (rD L) mo (.tuple (c.row.map nD)) none none (some (.d x)) none none)) ((List.range c.row.length).map nD) ((List.range' t r).map nD) f = some f' ∧
      FarI c f' ∧ Lev c L f' (t + r) ∧ ((∀ m p, Ok2 c p → Min c L m p → m + 1 < t + r) ∨ t + r ≤ f'.length + 1)
  | 0, t, f, _, g, hl, hlen => ⟨f, rfl, g, hl, .inr hlen⟩
  | r + 1, t, f, ht, g, hl, hlen => by
    obtain ⟨f2, e2, g2, hlook, hle, hstrict⟩ := puts_ok v (t : Int) (fndT c L f t) f g fun p hp => let ⟨h1, h2, _⟩ := mem_fnd.mp hp; ⟨h1, h2⟩
    have hmem : ∀ p, p ∈ fndT c L f t ↔ Ok2 c p ∧ Min c L (t - 1) p := fun p => by
      rw [mem_fnd]
      constructor
      · rintro ⟨h1, h2, h3⟩
        exact (take_iff v hl ht h1 h2).mp h3
      · intro h
        exact ⟨h.1.1, h.1.2.1, (take_iff v hl ht h.1.1 h.1.2.1).mpr h⟩
    have hl2 : Lev c L f2 (t + 1) := by
      intro p k
      rw [hlook]
      by_cases hp : p ∈ fndT c L f t
      · rw [if_pos hp]
        have hm := (hmem p).mp hp
        constructor
        · intro e
          cases e
          exact ⟨t - 1, by omega, by omega, hm.1, hm.2⟩
        · rintro ⟨m, e, _, _, hmin⟩
          have := min_uniq hm.2 hmin
          rw [e]
          congr 1
          omega
      · rw [if_neg hp]
        rw [hl p k]
        constructor
        · rintro ⟨m, e, h1, h2⟩
          exact ⟨m, e, by omega, h2⟩
        · rintro ⟨m, e, h1, h2, h3⟩
          refine ⟨m, e, ?_, h2, h3⟩
          have : m ≠ t - 1 := fun z => hp ((hmem p).mpr ⟨h2, by rw [← z]; exact h3⟩)
          omega
    rw [List.range'_succ, List.map_cons]
    unfold turnsF
    rw [ev_found v hlt, Option.bind_some, show asI (nD t) = some (t : Int) from rfl, Option.bind_some, e2, Option.bind_some, ev_farQ, Option.bind_some]
    by_cases hfo : fndT c L f t = []
    · rw [decide_eq_true hfo, if_pos rfl]
      have hno : ∀ m p, Ok2 c p → Min c L m p → m + 1 < t := fun m p ho hm => by
        refine Classical.byContradiction fun hge => ?_
        obtain ⟨q, hq, hmq⟩ := min_down v (m - (t - 1)) (t - 1) p ho (by rw [show t - 1 + (m - (t - 1)) = m by omega]; exact hm)
        have := (hmem q).mpr ⟨hq, hmq⟩
        rw [hfo] at this
        cases this
      refine ⟨f2, rfl, g2, fun p k => ?_, .inl fun m p ho hm => by have := hno m p ho hm; omega⟩
      rw [hl2 p k]
      constructor
      · rintro ⟨m, e, h1, h2⟩
        exact ⟨m, e, by omega, h2⟩
      · rintro ⟨m, e, h1, h2, h3⟩
        exact ⟨m, e, by have := hno m p h2 h3; omega, h2, h3⟩
    · rw [decide_eq_false hfo, if_neg Bool.false_ne_true]
      obtain ⟨q, rest, hq⟩ := List.exists_cons_of_ne_nil hfo
      have hnone : lookF f (castP q) = none := by
        have hm := (hmem q).mp (by rw [hq]; exact List.mem_cons_self ..)
        cases hs : lookF f (castP q) with
        | none => rfl
        | some k =>
          obtain ⟨m, _, h1, _, h3⟩ := (hl q k).mp hs
          have := min_uniq hm.2 h3
          omega
      have := hstrict q rest hq hnone
      obtain ⟨f', e', g', hl', hd⟩ := turns_ok v hlt r (t + 1) f2 (by omega) g2 hl2 (by omega)
      refine ⟨f', e', g', ?_, ?_⟩
      · rw [show t + (r + 1) = t + 1 + r by omega]
        exact hl'
      · rw [show t + (r + 1) = t + 1 + r by omega]
        exact hd
theorem ev_far_turns (v : Val c) (hlt : ∀ ch ∈ L, ch.2 < c.many) {most : Nat} (hm : most ≤ 900) : ∃ f, F_law_far [caseD c, rD L, nD most] = some f ∧ FarI c f ∧ Lev c L f (1 + most) ∧ ((∀ m p, Ok2 c p → Min c L m p → m + 1 < 1 + most) ∨ 1 + most ≤ f.length + 1) := by
  have hn := v.n
  obtain ⟨f, h1, h2⟩ := turns_ok (mo := nD most) v hlt most 1 [] (Nat.le_refl _) ⟨List.nodup_nil, fun k hk => nomatch hk⟩ (fun p k => ⟨fun e => (nomatch (show (none : Option Int) = some k from e)), fun ⟨m, _, h, _⟩ => by omega⟩) (Nat.le_refl _)
  refine ⟨f, ?_, h2⟩
  unfold F_law_far farF
  have e1 : farRow (startD 7 [caseD c, rD L, nD most]) = some (.tuple (c.row.map nD)) := rfl
  have e2 : farT (envF (caseD c) (rD L) (nD most) (.tuple (c.row.map nD)) none none none none none) = some ((List.range' 1 most).map nD) := by
    have z := rg2_n (f := fC (.int 1)) (g := fOp addD (fVar 2) (fC (.int 1))) (ρ := envF (caseD c) (rD L) (nD most) (.tuple (c.row.map nD)) none none none none none) (a := 1) (b := most + 1) rfl (op_n (y := nD 1) rfl rfl (add_n most 1)) (by decide) (by omega)
    rw [Nat.add_sub_cancel] at z
    exact z
  have e3 : farI (envF (caseD c) (rD L) (nD most) (.tuple (c.row.map nD)) none none none none none) = some ((List.range c.row.length).map nD) := rg1_n (len_v (xs := c.row) (f := nD) rfl) (by omega)
  dsimp only
  rw [e1, Option.bind_some, e2, Option.bind_some, e3, Option.bind_some]
  exact h1
theorem ev_far145 (v : Val c) (hlt : ∀ ch ∈ L, ch.2 < c.many) : ∃ f, F_law_far [caseD c, rD L, nD 145] = some f ∧ FarI c f ∧ ∀ p : Pr, (lookF f (castP p)).isSome = true ↔ Ok2 c p ∧ ∃ k, Ap c L k p := by
  obtain ⟨f, h1, g, hl, hd⟩ := ev_far_turns v hlt (most := 145) (by decide)
  have hlen := g.len v
  have hall : ∀ m p, Ok2 c p → Min c L m p → m + 1 < 146 := by
    rcases hd with hd | hd
    · exact hd
    · omega
  refine ⟨f, h1, g, fun p => ?_⟩
  rw [Option.isSome_iff_exists]
  constructor
  · rintro ⟨k, hk⟩
    obtain ⟨m, _, _, ho, hm⟩ := (hl p k).mp hk
    exact ⟨ho, m, hm.1⟩
  · rintro ⟨ho, k, hk⟩
    obtain ⟨m, _, hm⟩ := min_of k hk
    exact ⟨(m : Int) + 1, (hl p _).mpr ⟨m, rfl, hall m p ho hm, ho, hm⟩⟩
theorem ev_far1 (v : Val c) (hlt : ∀ ch ∈ L, ch.2 < c.many) : ∃ f, F_law_far [caseD c, rD L, nD 1] = some f ∧ FarI c f ∧ ∀ p : Pr, (lookF f (castP p)).isSome = true ↔ Ok2 c p ∧ Differ c L p := by
  obtain ⟨f, h1, g, hl, _⟩ := ev_far_turns v hlt (most := 1) (by decide)
  refine ⟨f, h1, g, fun p => ?_⟩
  rw [Option.isSome_iff_exists]
  constructor
  · rintro ⟨k, hk⟩
    obtain ⟨m, _, hm, ho, hmin⟩ := (hl p k).mp hk
    have : m = 0 := by omega
    subst this
    exact ⟨ho, hmin.1⟩
  · rintro ⟨ho, hd⟩
    exact ⟨(0 : Nat) + 1, (hl p _).mpr ⟨0, rfl, by omega, ho, hd, fun m' h => by omega⟩⟩
end
end DL
/-! P8: keys that hold, said twice. -/
namespace DL
open PySem L2
section
variable {c : Case} {L : List Ch} {p : Pr} {ks : List Nat}
abbrev ksD (ks : List Nat) : PyData := .tuple (ks.map nD)
def sw (p : Pr) : Pr := (p.2, p.1)
theorem Ok2.sw (h : Ok2 c p) : Ok2 c (sw p) := ⟨h.2.1, h.1, h.2.2.symm⟩
theorem Differ.sw (h : Ok2 c p) (d : Differ c L p) : Differ c L (sw p) := by
  obtain ⟨ch, h1, h2, h3⟩ := d
  exact ⟨ch, h1, h.2.2.symm.trans h2, fun e => h3 e.symm⟩
theorem Ap.sw (v : Val c) : ∀ (k : Nat) (p : Pr), Ok2 c p → Ap c L k p → Ap c L k (sw p)
  | 0, p, h, d => Differ.sw h d
  | k + 1, p, h, ⟨q, hg, ha⟩ => by
    refine ⟨DL.sw q, ?_, Ap.sw v k q (go_ok v hg) ha⟩
    obtain ⟨ch, h1, h2, h3, h4⟩ := hg
    exact ⟨ch, h1, h.2.2.symm.trans h2, h4, h3⟩
theorem differ_irr {x : Nat} : ¬ Differ c L (x, x) := fun ⟨ch, _, _, h⟩ => h rfl
theorem ap_irr : ∀ (k : Nat) (x : Nat), ¬ Ap c L k (x, x)
  | 0, x, h => differ_irr h
  | k + 1, x, ⟨q, ⟨ch, h1, h2, h3, h4⟩, ha⟩ => by
    obtain ⟨q1, q2⟩ := q
    have : q1 = q2 := Option.some.inj (h3.symm.trans h4)
    subst this
    exact ap_irr k q1 ha
/-- a statement about pairs of one worth, of one key, said of those in order -/
theorem pairs_iff {P : Pr → Prop} (hs : ∀ p, Ok2 c p → P p → P (sw p)) (hi : ∀ x, ¬ P (x, x)) : (∀ p, Ok2 c p → ks[p.1]? = ks[p.2]? → ¬ P p) ↔ ∀ p ∈ alikeT c ks, ¬ P p := by
  constructor
  · intro h p hp
    obtain ⟨h1, h2, h3, h4⟩ := mem_alike.mp hp
    exact h p ⟨by omega, h2, h3⟩ h4
  · intro h p ho hk hP
    rcases Nat.lt_trichotomy p.1 p.2 with hlt | heq | hgt
    · exact h p (mem_alike.mpr ⟨hlt, ho.2.1, ho.2.2, hk⟩) hP
    · obtain ⟨p1, p2⟩ := p
      have : p1 = p2 := heq
      subst this
      exact hi p1 hP
    · exact h (sw p) (mem_alike.mpr ⟨hgt, ho.1, ho.2.2.symm, hk.symm⟩) (hs p ho hP)
/-! ### the law's own -/
theorem ev_law_holds (v : Val c) (hk : ks.length = c.row.length) {most : PyData} {f : Far} (hf : F_law_far [caseD c, rD L, most] = some f) (g : FarI c f) :
    ∃ b, F_law_holds [caseD c, rD L, ksD ks, most] = some (.bool b) ∧ (b = true ↔ ∀ p : Pr, (lookF f (castP p)).isSome = true → ¬ ks[p.1]? = ks[p.2]?) := by
  have hlen := g.len v
  let T : (Int × Int) × Int → Bool := fun p => decide (ks[p.1.1.toNat]? = ks[p.1.2.toNat]?)
  have e : fLc (fFarI F_law_far (fCons (fVar 0) (fCons (fVar 1) (fCons (fVar 3) (fNil))))) (pgName 4) (fTest (fOp (eqD) (fOp ixD (fVar 2) (fOp ixD (fVar 4) (fC (.int 0)))) (fOp ixD (fVar 2) (fOp ixD (fVar 4) (fC (.int 1)))))) (fVar 4) [4] [some (.d (caseD c)), some (.d (rD L)), some (.d (ksD ks)), some (.d most), none] = some (.list ((f.filter T).map fun p => pairD p.1)) := by
    refine fLc_eq (α := (Int × Int) × Int) (fi := fFarI F_law_far (fCons (fVar 0) (fCons (fVar 1) (fCons (fVar 3) (fNil))))) (pg := pgName 4) (te := fVar 4) (vs := [4]) (tt := (fTest (fOp (eqD) (fOp ixD (fVar 2) (fOp ixD (fVar 4) (fC (.int 0)))) (fOp ixD (fVar 2) (fOp ixD (fVar 4) (fC (.int 1))))))) (ρ := [some (.d (caseD c)), some (.d (rD L)), some (.d (ksD ks)), some (.d most), none]) (xs := f) (fun p => pairD p.1) (fun p => pairD p.1) T ?_ (by omega) (fun p hp => ⟨[some (.d (caseD c)), some (.d (rD L)), some (.d (ksD ks)), some (.d most), some (.d (pairD p.1))], rfl, ?_, fun _ => rfl⟩)
    · show (F_law_far [caseD c, rD L, most]).map keysD = _
      rw [hf]
      rfl
    · obtain ⟨q, hq, h1, h2⟩ := g.ok p.1 (List.mem_map.mpr ⟨p, hp, rfl⟩)
      have hT : T p = decide (ks[q.1]? = ks[q.2]?) := by
        show decide _ = _
        rw [hq]
        rfl
      rw [hT, hq]
      exact test_eq (op_n (op_n rfl (op_n (z := nD q.1) rfl rfl (ixT0 _)) (ix_nat (xs := ks) (by omega))) (op_n rfl (op_n (z := nD q.2) rfl rfl (ixT1 _)) (ix_nat (xs := ks) (by omega))) (eq_at (by omega) (by omega)))
  refine ⟨decide (f.filter T = []), ?_, ?_⟩
  · have hpl : pl 2 (.list ((f.filter T).map fun p => pairD p.1)) = true := by
      show ((f.filter T).map fun p => pairD p.1).all (pl 1) = true
      exact pl_map (k := 1) (f := fun p : (Int × Int) × Int => pairD p.1) (fun _ => rfl) _
    have h2 : eqD (.list ((f.filter T).map fun p => pairD p.1)) (.list []) = some (.bool (decide (f.filter T = []))) := by
      refine eqD_pl (n := 2) (by decide) hpl rfl ?_
      rw [PyData.list.injEq, List.map_eq_nil_iff]
    unfold F_law_holds runF b_law_holds
    show endD (fRet _ [some (.d (caseD c)), some (.d (rD L)), some (.d (ksD ks)), some (.d most), none]) = _
    rw [a_Ret, op_n e (lst_eq rfl) h2]
    rfl
  · rw [decide_eq_true_eq, List.filter_eq_nil_iff]
    constructor
    · intro h p hs hkk
      have hm := (mem_look (castP p) f).mpr hs
      obtain ⟨e, he, heq⟩ := List.mem_map.mp hm
      refine h e he ?_
      show decide _ = true
      rw [heq]
      exact decide_eq_true hkk
    · intro h e he hT
      obtain ⟨q, hq, h1, h2⟩ := g.ok e.1 (List.mem_map.mpr ⟨e, he, rfl⟩)
      have hs := (mem_look e.1 f).mp (List.mem_map.mpr ⟨e, he, rfl⟩)
      rw [hq] at hs
      refine h q hs ?_
      have z := of_decide_eq_true hT
      rw [hq] at z
      exact z
theorem ev_holds145 (v : Val c) (hk : ks.length = c.row.length) (hlt : ∀ ch ∈ L, ch.2 < c.many) : ∃ b, F_law_holds [caseD c, rD L, ksD ks, nD 145] = some (.bool b) ∧ (b = true ↔ ∀ p ∈ alikeT c ks, ¬ ∃ k, Ap c L k p) := by
  obtain ⟨f, hf, g, hl⟩ := ev_far145 (L := L) v hlt
  obtain ⟨b, h1, h2⟩ := ev_law_holds v hk hf g
  refine ⟨b, h1, h2.trans ?_⟩
  rw [← pairs_iff (fun p ho ⟨k, h⟩ => ⟨k, Ap.sw v k p ho h⟩) (fun x ⟨k, h⟩ => ap_irr k x h)]
  constructor
  · intro h p ho hkk hP
    exact h p ((hl p).mpr ⟨ho, hP⟩) hkk
  · intro h p hs hkk
    obtain ⟨ho, hP⟩ := (hl p).mp hs
    exact h p ho hkk hP
theorem ev_holds1 (v : Val c) (hk : ks.length = c.row.length) (hlt : ∀ ch ∈ L, ch.2 < c.many) : ∃ b, F_law_holds [caseD c, rD L, ksD ks, nD 1] = some (.bool b) ∧ (b = true ↔ ∀ p ∈ alikeT c ks, ¬ Differ c L p) := by
  obtain ⟨f, hf, g, hl⟩ := ev_far1 (L := L) v hlt
  obtain ⟨b, h1, h2⟩ := ev_law_holds v hk hf g
  refine ⟨b, h1, h2.trans ?_⟩
  rw [← pairs_iff (fun p ho h => Differ.sw ho h) (fun x h => differ_irr h)]
  constructor
  · intro h p ho hkk hP
    exact h p ((hl p).mpr ⟨ho, hP⟩) hkk
  · intro h p hs hkk
    obtain ⟨ho, hP⟩ := (hl p).mp hs
    exact h p ho hkk hP
/-! ### the program's -/
def apBody : FSt := fSeq (fAsg (fCall F_trail_between (fCons (fVar 0) (fCons (fVar 1) (fCons (fVar 4) (fCons (fVar 5) (fCons (fCall F_most_of (fCons (fVar 3) (fNil))) (fNil))))))) (pgName 6)) (fIfS (fTest (fNotN (fVar 6))) (fRet (fTup (fCons (fVar 4) (fCons (fVar 5) (fCons (fVar 6) (fNil)))))) (fNext))
theorem apart_body : b_first_apart = fSeq (fFor (fItL (fCall F_alike_pairs (fCons (fVar 0) (fCons (fVar 2) (fNil))))) (pgTup (pgCons (pgName 4) (pgCons (pgName 5) (pgNil)))) apBody) (fRet (fC .none)) := rfl
theorem ev_apart (v : Val c) (hk : ks.length = c.row.length) {often : PyData} {most : Nat} (hm : F_most_of [often] = some (nD most)) {P : Pr → Prop}
    (hP : ∀ p, Ok2 c p → ∃ r, F_trail_between [caseD c, rD L, nD p.1, nD p.2, nD most] = some r ∧ (isNoneD r = true ↔ ¬ P p)) :
    ∃ r, F_first_apart [caseD c, rD L, ksD ks, often] = some r ∧ (isNoneD r = true ↔ ∀ p ∈ alikeT c ks, ¬ P p) := by
  classical
  have h := for_ret (pg := pgTup (pgCons (pgName 4) (pgCons (pgName 5) (pgNil)))) (body := apBody) pD (fun ρ => ∃ a4 a5 a6, ρ = [some (.d (caseD c)), some (.d (rD L)), some (.d (ksD ks)), some (.d often), a4, a5, a6]) (fun p => decide (P p)) (alikeT c ks) [some (.d (caseD c)), some (.d (rD L)), some (.d (ksD ks)), some (.d often), none, none, none] (fun p ρ hp hr => by
    obtain ⟨a4, a5, a6, e⟩ := hr
    subst e
    obtain ⟨h1, h2, h3, h4⟩ := mem_alike.mp hp
    obtain ⟨r, hr, hn⟩ := hP p ⟨by omega, h2, h3⟩
    refine ⟨[some (.d (caseD c)), some (.d (rD L)), some (.d (ksD ks)), some (.d often), some (.d (nD p.1)), some (.d (nD p.2)), a6], rfl, ?_⟩
    have e1 : fCall F_trail_between (fCons (fVar 0) (fCons (fVar 1) (fCons (fVar 4) (fCons (fVar 5) (fCons (fCall F_most_of (fCons (fVar 3) (fNil))) (fNil)))))) [some (.d (caseD c)), some (.d (rD L)), some (.d (ksD ks)), some (.d often), some (.d (nD p.1)), some (.d (nD p.2)), a6] = some r :=
      call_eq (cons_eq rfl (cons_eq rfl (cons_eq rfl (cons_eq rfl (cons_eq (call_eq (cons_eq rfl rfl) hm) rfl))))) hr
    have e2 : apBody [some (.d (caseD c)), some (.d (rD L)), some (.d (ksD ks)), some (.d often), some (.d (nD p.1)), some (.d (nD p.2)), a6] = if isNoneD r = true then some (.nx [some (.d (caseD c)), some (.d (rD L)), some (.d (ksD ks)), some (.d often), some (.d (nD p.1)), some (.d (nD p.2)), some (.d r)]) else some (.rt (.tuple [nD p.1, nD p.2, r])) := by
      unfold apBody
      rw [a_Seq, a_Asg, e1, Option.bind_some]
      show fIfS (fTest (fNotN (fVar 6))) (fRet (fTup (fCons (fVar 4) (fCons (fVar 5) (fCons (fVar 6) (fNil)))))) (fNext) [some (.d (caseD c)), some (.d (rD L)), some (.d (ksD ks)), some (.d often), some (.d (nD p.1)), some (.d (nD p.2)), some (.d r)] = _
      rw [a_IfS, test_eq (b := !isNoneD r) rfl, Option.bind_some]
      cases isNoneD r <;> rfl
    rw [e2]
    by_cases hp2 : P p
    · refine .inr ⟨decide_eq_true hp2, _, if_neg (fun z => hn.mp z hp2), fun z => nomatch z⟩
    · exact .inl ⟨decide_eq_false hp2, _, if_pos (hn.mpr hp2), _, _, _, rfl⟩) ⟨none, none, none, rfl⟩
  have e0 : fFor (fItL (fCall F_alike_pairs (fCons (fVar 0) (fCons (fVar 2) (fNil))))) (pgTup (pgCons (pgName 4) (pgCons (pgName 5) (pgNil)))) apBody (startD 3 [caseD c, rD L, ksD ks, often]) = forF (pgTup (pgCons (pgName 4) (pgCons (pgName 5) (pgNil)))) apBody ((alikeT c ks).map pD) [some (.d (caseD c)), some (.d (rD L)), some (.d (ksD ks)), some (.d often), none, none, none] := by
    show ((fCall F_alike_pairs _ _).bind asL).bind _ = _
    rw [call_eq (cons_eq rfl (cons_eq rfl rfl)) (ev_alike v hk)]
    rfl
  have hall : (alikeT c ks).all (fun p => !decide (P p)) = true ↔ ∀ p ∈ alikeT c ks, ¬ P p := by
    rw [List.all_eq_true]
    exact forall_congr' fun p => imp_congr_right fun _ => by rw [Bool.not_eq_true', decide_eq_false_iff_not]
  unfold F_first_apart runF
  rw [apart_body, a_Seq, e0]
  rcases h with ⟨h1, ρ', h2, _⟩ | ⟨h1, y, h2, hy⟩
  · rw [h2]
    exact ⟨.none, rfl, ⟨fun _ => hall.mp h1, fun _ => rfl⟩⟩
  · rw [h2]
    refine ⟨y, rfl, ?_⟩
    have : isNoneD y = false := by cases y <;> first | rfl | exact absurd rfl hy
    rw [this]
    refine ⟨fun e => (Bool.false_ne_true e).elim, fun e => ?_⟩
    rw [hall.mpr e] at h1
    cases h1
theorem ev_hold {often : PyData} {r : PyData} (h : F_first_apart [caseD c, rD L, ksD ks, often] = some r) : F_hold [caseD c, rD L, ksD ks, often] = some (.bool (isNoneD r)) := by
  unfold F_hold runF b_hold
  rw [a_Ret, a_IsN, call_eq (cons_eq rfl (cons_eq rfl (cons_eq rfl (cons_eq rfl rfl)))) h]
  rfl
theorem seq_drop {f : FM} {s : FSt} {ρ : DEnv} {x : PyData} (h : f ρ = some x) : fSeq (fDrop f) s ρ = s ρ := by
  rw [a_Seq, a_Drop, h]
  rfl
theorem ev_hold144 (v : Val c) (hk : ks.length = c.row.length) (hL : L.length ≤ 1000) (hlt : ∀ ch ∈ L, ch.2 < c.many) : ∃ b, F_hold [caseD c, rD L, ksD ks, .str "always"] = some (.bool b) ∧ (b = true ↔ ∀ p ∈ alikeT c ks, ¬ ∃ k, Ap c L k p) := by
  obtain ⟨r, h1, h2⟩ := ev_apart (L := L) v hk ev_most2 (P := fun p => ∃ k, Ap c L k p) fun p ho => ev_trail144 v hL hlt ho
  exact ⟨_, ev_hold h1, h2⟩
theorem ev_hold1 (v : Val c) (hk : ks.length = c.row.length) (hL : L.length ≤ 1000) (hlt : ∀ ch ∈ L, ch.2 < c.many) : ∃ b, F_hold [caseD c, rD L, ksD ks, .str "once"] = some (.bool b) ∧ (b = true ↔ ∀ p ∈ alikeT c ks, ¬ Differ c L p) := by
  obtain ⟨r, h1, h2⟩ := ev_apart (L := L) v hk ev_most1 (P := fun p => Differ c L p) fun p ho => ev_trail1 v hL hlt ho
  exact ⟨_, ev_hold h1, h2⟩
theorem ev_keys_hold (v : Val c) (hk : VKeys c ks) (h : VLets c L) (hL : L.length ≤ 1000) {often : PyData} {b : Bool} (ho : F_need_often [often] = some .none) (hh : F_hold [caseD c, rD L, ksD ks, often] = some (.bool b)) : F_keys_hold [caseD c, rD L, ksD ks, often] = some (.bool b) := by
  unfold F_keys_hold runF b_keys_hold
  rw [seq_drop (call_eq (cons_eq rfl rfl) (ev_need_case v)), seq_drop (call_eq (cons_eq rfl (cons_eq rfl rfl)) (ev_need_lets v h hL)), seq_drop (call_eq (cons_eq rfl (cons_eq rfl rfl)) (ev_need_keys v hk)), seq_drop (call_eq (cons_eq rfl rfl) ho), a_Ret,
    call_eq (cons_eq rfl (cons_eq rfl (cons_eq rfl (cons_eq rfl rfl)))) hh]
  rfl
end
end DL
/-! P9: once. -/
namespace DL
open PySem L2
section
variable {c : Case} {L : List Ch} {p : Pr} {ks : List Nat} {ch : Ch}
def everyT (m : Nat) : List Ch := (List.range m).flatMap fun a => (List.range m).map fun b => (a, b)
theorem mem_every {m : Nat} : ch ∈ everyT m ↔ ch.1 < m ∧ ch.2 < m := by
  unfold everyT
  rw [List.mem_flatMap]
  constructor
  · rintro ⟨a, ha, h⟩
    obtain ⟨b, hb, e⟩ := List.mem_map.mp h
    subst e
    exact ⟨List.mem_range.mp ha, List.mem_range.mp hb⟩
  · rintro ⟨h1, h2⟩
    exact ⟨ch.1, List.mem_range.mpr h1, List.mem_map.mpr ⟨ch.2, List.mem_range.mpr h2, rfl⟩⟩
theorem every_st (m : Nat) : (everyT m).Pairwise fun a b => chB a b = true := by
  unfold everyT
  refine List.pairwise_flatMap.mpr ⟨fun a ha => ?_, ?_⟩
  · refine List.pairwise_map.mpr (List.Pairwise.imp ?_ List.pairwise_lt_range)
    intro x y h
    unfold chB
    simp
    exact h
  · refine List.Pairwise.imp ?_ List.pairwise_lt_range
    intro a b h x hx y hy
    obtain ⟨x', _, rfl⟩ := List.mem_map.mp hx
    obtain ⟨y', _, rfl⟩ := List.mem_map.mp hy
    unfold chB
    simp
    exact .inl h
theorem every_v (v : Val c) : VLets c (everyT c.many) := ⟨fun ch h => mem_every.mp h, every_st _⟩
theorem every_len {m : Nat} (h : m ≤ 6) : (everyT m).length ≤ 36 := by
  unfold everyT
  rw [List.length_flatMap]
  have : ((List.range m).map fun a => ((List.range m).map fun b => (a, b)).length) = (List.range m).map fun _ => m := by
    refine List.map_congr_left fun a _ => ?_
    rw [List.length_map, List.length_range]
  rw [this]
  match m, h with
  | 0, _ => decide
  | 1, _ => decide
  | 2, _ => decide
  | 3, _ => decide
  | 4, _ => decide
  | 5, _ => decide
  | 6, _ => decide
/-! ### is_once -/
def onceB (c : Case) (ps : List Pr) (ch : Ch) : Bool := (ps.filter fun p => decide (c.row[p.1]? = some ch.1)).all fun p => decide (ans c p.1 ch.2 = ans c p.2 ch.2)
theorem onceB_iff {ps : List Pr} : onceB c ps ch = true ↔ ∀ p ∈ ps, ¬ Differ c [ch] p := by
  unfold onceB
  rw [List.all_eq_true]
  constructor
  · rintro h p hp ⟨ch', h1, h2, h3⟩
    rw [List.mem_singleton] at h1
    subst h1
    exact h3 (of_decide_eq_true (h p (List.mem_filter.mpr ⟨hp, decide_eq_true h2⟩)))
  · intro h p hp
    obtain ⟨h1, h2⟩ := List.mem_filter.mp hp
    exact decide_eq_true (Classical.byContradiction fun h3 => h p h1 ⟨ch, List.mem_singleton.mpr rfl, of_decide_eq_true h2, h3⟩)
theorem ev_is_once (v : Val c) {ps : List Pr} (hp : ∀ p ∈ ps, Ok2 c p) (hl : ps.length ≤ 1000) (hc : ch.2 < c.many) : F_is_once [caseD c, .list (ps.map pD), cD ch] = some (.bool (onceB c ps ch)) := by
  have e1 : fLc (fItL (fVar 1)) (pgName 4) (fTest (fOp (eqD) (fOp ixD (fOp ixD (fOp ixD (fVar 0) (fC (.int 0))) (fC (.int 1))) (fOp ixD (fVar 4) (fC (.int 0)))) (fOp ixD (fVar 2) (fC (.int 0))))) (fVar 4) [4] [some (.d (caseD c)), some (.d (.list (ps.map pD))), some (.d (cD ch)), none, none, none, none] =
      some (.list ((ps.filter fun p => decide (c.row[p.1]? = some ch.1)).map pD)) := by
    refine fLc_eq pD pD _ rfl (by omega) fun p hpm => ⟨_, rfl, ?_, fun _ => rfl⟩
    have h1 := (hp p hpm).1
    have e : eqD (nD (c.row[p.1]'h1)) (nD ch.1) = some (.bool (decide (c.row[p.1]? = some ch.1))) := by
      have hr : c.row[p.1]? = some (c.row[p.1]'h1) := List.getElem?_eq_getElem h1
      refine eqD_pl (n := 0) (by decide) pl_n pl_n ?_
      rw [nD_inj]
      generalize c.row[p.1]'h1 = w at hr ⊢
      rw [hr, Option.some.injEq]
    exact test_eq (op_n (op_n rfl (op_n (z := nD p.1) rfl rfl (ixT0 _)) (ix_nat h1)) (op_n (z := nD ch.1) rfl rfl (ixT0 _)) e)
  have e2 : fLc (fItL (fVar 3)) (pgTup (pgCons (pgName 5) (pgCons (pgName 6) (pgNil)))) (fYes) (fOp (eqD) (fCall F_answer_of (fCons (fVar 0) (fCons (fVar 5) (fCons (fVar 2) (fNil))))) (fCall F_answer_of (fCons (fVar 0) (fCons (fVar 6) (fCons (fVar 2) (fNil)))))) [5, 6] [some (.d (caseD c)), some (.d (.list (ps.map pD))), some (.d (cD ch)), some (.d (.list ((ps.filter fun p => decide (c.row[p.1]? = some ch.1)).map pD))), none, none, none] =
      some (.list ((ps.filter fun p => decide (c.row[p.1]? = some ch.1)).map fun p => .bool (decide (ans c p.1 ch.2 = ans c p.2 ch.2)))) := by
    refine fLc_all pD _ rfl (Nat.le_trans (List.length_filter_le _ _) (by omega)) fun p hpm => ⟨_, rfl, ?_⟩
    have ho := hp p (List.mem_filter.mp hpm).1
    exact op_n (call_eq (cons_eq rfl (cons_eq rfl (cons_eq rfl rfl))) (ev_answer v ho.1 hc)) (call_eq (cons_eq rfl (cons_eq rfl (cons_eq rfl rfl))) (ev_answer v ho.2.1 hc)) (eqD_pl (n := 0) (by decide) pl_o pl_o oD_inj)
  unfold F_is_once runF b_is_once
  rw [a_Seq, a_Asg]
  show endD (((fLc _ _ _ _ _ [some (.d (caseD c)), some (.d (.list (ps.map pD))), some (.d (cD ch)), none, none, none, none]).bind _).bind _) = _
  rw [e1, Option.bind_some]
  show endD (fRet (fCall allF (fCons (fLc (fItL (fVar 3)) (pgTup (pgCons (pgName 5) (pgCons (pgName 6) (pgNil)))) (fYes) (fOp (eqD) (fCall F_answer_of (fCons (fVar 0) (fCons (fVar 5) (fCons (fVar 2) (fNil))))) (fCall F_answer_of (fCons (fVar 0) (fCons (fVar 6) (fCons (fVar 2) (fNil)))))) [5, 6]) (fNil))) [some (.d (caseD c)), some (.d (.list (ps.map pD))), some (.d (cD ch)), some (.d (.list ((ps.filter fun p => decide (c.row[p.1]? = some ch.1)).map pD))), none, none, none]) = _
  rw [a_Ret, call_eq (cons_eq e2 rfl) (allF_map _ _)]
  rfl
/-! ### lets_once -/
theorem lcO2_eq {α β : Type} {pg pg1 : PGd} {tt1 : FTt} {fi1 : FAa} {te : FM} {vs vs1 : List Nat} {ρ : DEnv} (en : α → PyData) (en1 : β → PyData) (ys : List β) (p : α → β → Bool) (out : α → β → PyData) : ∀ (xs : List α), (∀ x ∈ xs, ∃ ρ', pg (en x) (wipeD ρ vs) = some ρ' ∧ fi1 ρ' = some (ys.map en1) ∧ ∀ y ∈ ys, ∃ ρ'', pg1 (en1 y) (wipeD ρ' vs1) = some ρ'' ∧ tt1 ρ'' = some (p x y) ∧ (p x y = true → te ρ'' = some (out x y))) →
    lcO2 pg fYes fi1 pg1 tt1 te vs vs1 (xs.map en) ρ = some (xs.flatMap fun x => (ys.filter (p x)).map (out x))
  | [], _ => rfl
  | x :: xs, h => by
    obtain ⟨ρ', h1, h2, h3⟩ := h x (List.mem_cons_self ..)
    have ih := lcO2_eq en en1 ys p out xs fun z hz => h z (List.mem_cons_of_mem _ hz)
    show (pg (en x) (wipeD ρ vs)).bind _ = _
    rw [h1, Option.bind_some, show fYes ρ' = some true from rfl, Option.bind_some, if_pos rfl, h2, Option.bind_some, lc_eq en1 (out x) (p x) ys h3, Option.bind_some, ih]
    rfl
theorem every_filter (m : Nat) (p : Ch → Bool) : ((List.range m).flatMap fun a => ((List.range m).filter fun b => p (a, b)).map fun b => cD (a, b)) = ((everyT m).filter p).map cD := by
  unfold everyT
  rw [List.filter_flatMap, List.map_flatMap]
  congr 1
  funext a
  rw [List.filter_map, List.map_map]
  rfl
theorem alike_ok {p : Pr} (h : p ∈ alikeT c ks) : Ok2 c p := by
  obtain ⟨h1, h2, h3, _⟩ := mem_alike.mp h
  exact ⟨by omega, h2, h3⟩
theorem alike_len (v : Val c) : (alikeT c ks).length ≤ 144 := by
  have hn := v.n
  refine Nat.le_trans (alikeK_len c ks c.row.length) (Nat.le_trans (Nat.mul_le_mul hn hn) (by decide))
theorem ev_lets_once (v : Val c) (hk : VKeys c ks) : F_lets_once [caseD c, ksD ks] = some (rD ((everyT c.many).filter (onceB c (alikeT c ks)))) := by
  have hm := v.m
  have hal := alike_len (ks := ks) v
  have e1 : fTup (fCons (fCall F_alike_pairs (fCons (fVar 0) (fCons (fVar 1) (fNil)))) (fCons (fLstRg (fOp ixD (fOp ixD (fVar 0) (fC (.int 0))) (fC (.int 0)))) (fNil))) (startD 4 [caseD c, ksD ks]) = some (.tuple [.list ((alikeT c ks).map pD), .list ((List.range c.many).map nD)]) := by
    refine tup_eq (cons_eq (call_eq (cons_eq rfl (cons_eq rfl rfl)) (ev_alike v hk.1)) (cons_eq ?_ rfl))
    rw [a_LstRg, op_n (z := nD c.many) (op_n rfl rfl (case0 c)) rfl (ixT0 _)]
    show ((asI (nD c.many)).bind _) = _
    rw [show asI (nD c.many) = some (c.many : Int) from rfl, Option.bind_some]
    exact (if_pos ⟨by omega, by omega⟩).trans (by rw [range0])
  have e2 : fLc2 (fItL (fVar 3)) (pgName 4) (fYes) (fItL (fVar 3)) (pgName 5) (fTest (fCall F_is_once (fCons (fVar 0) (fCons (fVar 2) (fCons (fTup (fCons (fVar 4) (fCons (fVar 5) (fNil)))) (fNil)))))) (fTup (fCons (fVar 4) (fCons (fVar 5) (fNil)))) [4, 5] [5] [some (.d (caseD c)), some (.d (ksD ks)), some (.d (.list ((alikeT c ks).map pD))), some (.d (.list ((List.range c.many).map nD))), none, none] =
      some (.list (((everyT c.many).filter (onceB c (alikeT c ks))).map cD)) := by
    have z := lcO2_eq (pg := pgName 4) (pg1 := pgName 5) (tt1 := (fTest (fCall F_is_once (fCons (fVar 0) (fCons (fVar 2) (fCons (fTup (fCons (fVar 4) (fCons (fVar 5) (fNil)))) (fNil))))))) (fi1 := fItL (fVar 3)) (te := (fTup (fCons (fVar 4) (fCons (fVar 5) (fNil))))) (vs := [4, 5]) (vs1 := [5]) (ρ := [some (.d (caseD c)), some (.d (ksD ks)), some (.d (.list ((alikeT c ks).map pD))), some (.d (.list ((List.range c.many).map nD))), none, none])
      nD nD (List.range c.many) (fun a b => onceB c (alikeT c ks) (a, b)) (fun a b => cD (a, b)) (List.range c.many) (fun a ha => ⟨[some (.d (caseD c)), some (.d (ksD ks)), some (.d (.list ((alikeT c ks).map pD))), some (.d (.list ((List.range c.many).map nD))), some (.d (nD a)), none], rfl, rfl, fun b hb => ⟨[some (.d (caseD c)), some (.d (ksD ks)), some (.d (.list ((alikeT c ks).map pD))), some (.d (.list ((List.range c.many).map nD))), some (.d (nD a)), some (.d (nD b))], rfl,
        test_eq (call_eq (cons_eq rfl (cons_eq rfl (cons_eq (tup_eq (cons_eq rfl (cons_eq rfl rfl))) rfl))) (ev_is_once (ch := (a, b)) v (fun p hp => alike_ok hp) (by omega) (List.mem_range.mp hb))), fun _ => rfl⟩⟩)
    rw [every_filter] at z
    show (lcO2 _ _ _ _ _ _ _ _ ((List.range c.many).map nD) _).bind _ = _
    rw [z, Option.bind_some]
    refine if_pos ?_
    rw [List.length_map]
    have := every_len hm
    have := List.length_filter_le (onceB c (alikeT c ks)) (everyT c.many)
    show _ ≤ 1000000
    omega
  unfold F_lets_once runF b_lets_once
  rw [seq_drop (call_eq (cons_eq rfl rfl) (ev_need_case v)), seq_drop (call_eq (cons_eq rfl (cons_eq rfl rfl)) (ev_need_keys v hk)), a_Seq, a_Asg, e1, Option.bind_some]
  show endD (fRet (fCall tupleF (fCons (fLc2 (fItL (fVar 3)) (pgName 4) (fYes) (fItL (fVar 3)) (pgName 5) (fTest (fCall F_is_once (fCons (fVar 0) (fCons (fVar 2) (fCons (fTup (fCons (fVar 4) (fCons (fVar 5) (fNil)))) (fNil)))))) (fTup (fCons (fVar 4) (fCons (fVar 5) (fNil)))) [4, 5] [5]) (fNil))) [some (.d (caseD c)), some (.d (ksD ks)), some (.d (.list ((alikeT c ks).map pD))), some (.d (.list ((List.range c.many).map nD))), none, none]) = _
  rw [a_Ret, call_eq (z := rD ((everyT c.many).filter (onceB c (alikeT c ks)))) (cons_eq e2 rfl) rfl]
  rfl
/-! ### the law's -/
theorem ev_law_changes {m : Nat} (hm : m ≤ 6) : F_law_changes [nD m] = some (.list ((everyT m).map cD)) := by
  have h : ∀ k, k ≤ 6 → (match F_law_changes [nD k] with | some x => PyData.eqv x (.list ((everyT k).map cD)) && pl 3 x | _ => false) = true := by
    intro k hk
    match k, hk with
    | 0, _ => decide +kernel
    | 1, _ => decide +kernel
    | 2, _ => decide +kernel
    | 3, _ => decide +kernel
    | 4, _ => decide +kernel
    | 5, _ => decide +kernel
    | 6, _ => decide +kernel
  have z := h m hm
  split at z
  · rename_i x e
    rw [Bool.and_eq_true] at z
    have hp : pl 3 (.list ((everyT m).map cD)) = true := pl_map (k := 2) (f := cD) (fun _ => pl_c) _
    rw [e, (pl_eqv 3 _ _ z.2 hp).mp z.1]
  · cases z
theorem once_agree (v : Val c) (hk : VKeys c ks) (hc : ch ∈ everyT c.many) : F_law_holds [caseD c, rD [ch], ksD ks, nD 1] = some (.bool (onceB c (alikeT c ks) ch)) := by
  obtain ⟨b, h1, h2⟩ := ev_holds1 (L := [ch]) v hk.1 fun ch' h => by
    rw [List.mem_singleton] at h
    subst h
    exact (mem_every.mp hc).2
  rw [h1, Bool.eq_iff_iff.mpr (h2.trans onceB_iff.symm)]
theorem once_keys (v : Val c) (hk : VKeys c ks) : F_keys_hold [caseD c, rD ((everyT c.many).filter (onceB c (alikeT c ks))), ksD ks, .str "once"] = some (.bool true) := by
  have hs : ((everyT c.many).filter (onceB c (alikeT c ks))).Sublist (everyT c.many) := List.filter_sublist
  have hv := (every_v v).sub hs
  have hl := List.Sublist.length_le hs
  have := every_len v.m
  obtain ⟨b, h1, h2⟩ := ev_hold1 (L := (everyT c.many).filter (onceB c (alikeT c ks))) v hk.1 (by omega) fun ch h => (hv.lt ch h).2
  have hb : b = true := h2.mpr fun p hp ⟨ch, hc, hr, hne⟩ => onceB_iff.mp (List.mem_filter.mp hc).2 p hp ⟨ch, List.mem_singleton.mpr rfl, hr, hne⟩
  subst hb
  exact ev_keys_hold v hk hv (by omega) ev_often1 h1
end
end DL
/-! P10: always: the greatest rows. -/
namespace DL
open PySem L2
section
variable {α β : Type}
def grow (rows : List (List α)) (a : α) : List (List α) := rows ++ rows.map fun r => r ++ [a]
def rowsG (xs : List α) : List (List α) := xs.foldl grow [[]]
theorem grow_map (g : α → β) (rows : List (List α)) (a : α) : (grow rows a).map (List.map g) = grow (rows.map (List.map g)) (g a) := by
  unfold grow
  rw [List.map_append, List.map_map, List.map_map]
  congr 1
  refine List.map_congr_left fun r _ => ?_
  show (r ++ [a]).map g = r.map g ++ [g a]
  rw [List.map_append]
  rfl
theorem fold_map (g : α → β) : ∀ (xs : List α) (rows : List (List α)), (xs.foldl grow rows).map (List.map g) = (xs.map g).foldl grow (rows.map (List.map g))
  | [], _ => rfl
  | a :: xs, rows => by
    rw [List.foldl_cons, fold_map g xs, grow_map, List.map_cons, List.foldl_cons]
theorem rows_map (g : α → β) (xs : List α) : (rowsG xs).map (List.map g) = rowsG (xs.map g) := fold_map g xs [[]]
theorem fold_sub : ∀ (xs pre : List α) (rows : List (List α)), (∀ r ∈ rows, r.Sublist pre) → ∀ r ∈ xs.foldl grow rows, r.Sublist (pre ++ xs)
  | [], pre, rows, h, r, hr => by
    rw [List.append_nil]
    exact h r hr
  | a :: xs, pre, rows, h, r, hr => by
    have z := fold_sub xs (pre ++ [a]) (grow rows a) (fun r hr => by
      rcases List.mem_append.mp hr with hr | hr
      · exact (h r hr).trans (List.sublist_append_left _ _)
      · obtain ⟨q, hq, e⟩ := List.mem_map.mp hr
        subst e
        exact List.Sublist.append (h q hq) (List.Sublist.refl _)) r hr
    rw [List.append_assoc] at z
    exact z
theorem rows_sub {xs : List α} {r : List α} (h : r ∈ rowsG xs) : r.Sublist xs := fold_sub xs [] [[]] (fun r hr => by
  rw [List.mem_singleton] at hr
  subst hr
  exact List.Sublist.refl _) r h
theorem fold_len : ∀ (xs : List α) (rows : List (List α)), (xs.foldl grow rows).length = rows.length * 2 ^ xs.length
  | [], rows => by simp
  | a :: xs, rows => by
    rw [List.foldl_cons, fold_len xs, List.length_cons, Nat.pow_succ]
    unfold grow
    rw [List.length_append, List.length_map, ← Nat.two_mul, Nat.mul_comm 2, Nat.mul_assoc, Nat.mul_comm 2]
theorem rows_len {xs : List α} (h : xs.length ≤ 6) : (rowsG xs).length ≤ 64 := by
  unfold rowsG
  rw [fold_len]
  show 1 * 2 ^ xs.length ≤ 64
  rw [Nat.one_mul]
  exact Nat.le_trans (Nat.pow_le_pow_right (by decide) h) (by decide)
theorem fold_head : ∀ (xs : List α) (t : List (List α)), (∀ r ∈ t, r ≠ []) → ∃ t', xs.foldl grow ([] :: t) = [] :: t' ∧ ∀ r ∈ t', r ≠ []
  | [], t, h => ⟨t, rfl, h⟩
  | a :: xs, t, h => by
    have e : grow ([] :: t) a = [] :: (t ++ ([] :: t).map fun r => r ++ [a]) := rfl
    rw [List.foldl_cons, e]
    refine fold_head xs _ fun r hr => ?_
    rcases List.mem_append.mp hr with hr | hr
    · exact h r hr
    · obtain ⟨q, _, e⟩ := List.mem_map.mp hr
      subst e
      simp
theorem rows_head (xs : List α) : ∃ t, rowsG xs = [] :: t ∧ ∀ r ∈ t, r ≠ [] := fold_head xs [] fun r h => nomatch h
end
abbrev lotD (l : List Nat) : PyData := .tuple (l.map nD)
theorem ev_all_lots {n : Nat} (hn : n ≤ 6) : F_all_lots [nD n] = some (.list ((rowsG (List.range n)).map lotD)) := by
  have h : ∀ k, k ≤ 6 → (match F_all_lots [nD k] with | some x => PyData.eqv x (.list ((rowsG (List.range k)).map lotD)) && pl 3 x | _ => false) = true := by
    intro k hk
    match k, hk with
    | 0, _ => decide +kernel
    | 1, _ => decide +kernel
    | 2, _ => decide +kernel
    | 3, _ => decide +kernel
    | 4, _ => decide +kernel
    | 5, _ => decide +kernel
    | 6, _ => decide +kernel
  have z := h n hn
  split at z
  · rename_i x e
    rw [Bool.and_eq_true] at z
    have hp : pl 3 (.list ((rowsG (List.range n)).map lotD)) = true := pl_map (k := 2) (f := lotD) (fun l => pl_map (k := 1) (f := nD) (fun _ => pl_n) l) _
    rw [e, (pl_eqv 3 _ _ z.2 hp).mp z.1]
  · cases z
/-! ### which rows -/
open Classical in
noncomputable def HB (c : Case) (ks : List Nat) (r : List Ch) : Bool := decide (∀ p ∈ alikeT c ks, ¬ ∃ k, Ap c r k p)
open Classical in
theorem HB_iff {c : Case} {ks : List Nat} {r : List Ch} : HB c ks r = true ↔ ∀ p ∈ alikeT c ks, ¬ ∃ k, Ap c r k p := by
  unfold HB
  exact decide_eq_true_iff
noncomputable def foundR (c : Case) (ks : List Nat) (l : List Ch) : List (List Ch) := (rowsG l).filter (HB c ks)
def wider (r o : List Ch) : Bool := !decide (r = o) && r.all fun ch => decide (ch ∈ o)
noncomputable def greatR (c : Case) (ks : List Nat) (l : List Ch) : List (List Ch) := (foundR c ks l).filter fun r => !(foundR c ks l).any (wider r)
def castR (r : List Ch) : List Chg := r.map castP
theorem rD_cast (r : List Ch) : rowD (castR r) = rD r := by
  unfold rowD castR
  rw [List.map_map]
  rfl
theorem chgsOf_cast : ∀ r : List Ch, chgsOf (r.map cD) = some (castR r)
  | [] => rfl
  | ch :: r => by
    show (chgOf (cD ch)).bind _ = _
    rw [show chgOf (cD ch) = some (castP ch) from rfl, Option.bind_some, chgsOf_cast r]
    rfl
theorem rowsOf_cast : ∀ g : List (List Ch), rowsOf (g.map rD) = some (g.map castR)
  | [] => rfl
  | r :: g => by
    show (rowOf (rD r)).bind _ = _
    rw [show rowOf (rD r) = some (castR r) from chgsOf_cast r, Option.bind_some, rowsOf_cast g]
    rfl
section
variable {c : Case} {ks : List Nat} {l r o : List Ch} {ch : Ch}
theorem hold_eq (v : Val c) (hk : ks.length = c.row.length) (hr : VLets c r) (hl : r.length ≤ 1000) : F_hold [caseD c, rD r, ksD ks, .str "always"] = some (.bool (HB c ks r)) := by
  obtain ⟨b, h1, h2⟩ := ev_hold144 (L := r) v hk hl fun ch h => (hr.lt ch h).2
  rw [h1, show b = HB c ks r from Bool.eq_iff_iff.mpr (h2.trans HB_iff.symm)]
theorem holds_eq (v : Val c) (hk : ks.length = c.row.length) (hr : VLets c r) : F_law_holds [caseD c, rD r, ksD ks, nD 145] = some (.bool (HB c ks r)) := by
  obtain ⟨b, h1, h2⟩ := ev_holds145 (L := r) v hk fun ch h => (hr.lt ch h).2
  rw [h1, show b = HB c ks r from Bool.eq_iff_iff.mpr (h2.trans HB_iff.symm)]
theorem found_len (hl : l.length ≤ 6) : (foundR c ks l).length ≤ 64 := Nat.le_trans (List.length_filter_le _ _) (rows_len hl)
theorem great_len (hl : l.length ≤ 6) : (greatR c ks l).length ≤ 64 := Nat.le_trans (List.length_filter_le _ _) (found_len hl)
theorem found_sub (h : r ∈ foundR c ks l) : r.Sublist l := rows_sub (List.mem_filter.mp h).1
theorem great_ok : (greatR c ks l).length ≤ 1 ∨ ((greatR c ks l).map castR).all (fun r => !r.isEmpty) = true := by
  by_cases h : [] ∈ greatR c ks l
  · left
    obtain ⟨h1, h2⟩ := List.mem_filter.mp h
    rw [Bool.not_eq_true', List.any_eq_false] at h2
    have hall : ∀ o ∈ foundR c ks l, o = [] := fun o ho => by
      have z := h2 o ho
      unfold wider at z
      simp at z
      exact z
    obtain ⟨t, ht, htn⟩ := rows_head l
    have hf : (foundR c ks l).length ≤ 1 := by
      have e : foundR c ks l = ([[]] : List (List Ch)).filter (HB c ks) ++ t.filter (HB c ks) := by
        unfold foundR
        rw [ht, ← List.filter_append]
        rfl
      have e2 : t.filter (HB c ks) = [] := by
        refine List.eq_nil_iff_forall_not_mem.mpr fun q hq => ?_
        exact htn q (List.mem_filter.mp hq).1 (hall q (by rw [e]; exact List.mem_append_right _ hq))
      rw [e, e2, List.append_nil]
      exact List.length_filter_le _ _
    exact Nat.le_trans (List.length_filter_le _ _) hf
  · right
    rw [List.all_eq_true]
    intro q hq
    obtain ⟨r, hr, e⟩ := List.mem_map.mp hq
    subst e
    cases r with
    | nil => exact absurd hr h
    | cons a r => rfl
/-- the sorted rows -/
noncomputable def toldL (c : Case) (ks : List Nat) (l : List Ch) : List PyData := (sortR ((greatR c ks l).map castR)).map rowD
theorem sort_great (hl : l.length ≤ 6) : sortF [.list ((greatR c ks l).map rD)] = some (.list (toldL c ks l)) := by
  have hg := great_len (c := c) (ks := ks) hl
  show (rowsOf ((greatR c ks l).map rD)).bind _ = _
  rw [rowsOf_cast, Option.bind_some]
  refine if_pos ⟨?_, ?_⟩
  · rw [List.length_map]
    show _ ≤ 1000000
    omega
  · rw [List.length_map]
    exact great_ok
theorem told_mem {x : PyData} (h : x ∈ toldL c ks l) : ∃ r ∈ greatR c ks l, x = rD r := by
  obtain ⟨q, hq, e⟩ := List.mem_map.mp h
  have hm := (sort_perm ((greatR c ks l).map castR)).mem_iff.mp hq
  obtain ⟨r, hr, e2⟩ := List.mem_map.mp hm
  exact ⟨r, hr, by rw [← e, ← e2, rD_cast]⟩
theorem told_len (hl : l.length ≤ 6) : (toldL c ks l).length ≤ 64 := by
  unfold toldL
  rw [List.length_map, (sort_perm _).length_eq, List.length_map]
  exact great_len hl
theorem told_pl : pl 3 (.list (toldL c ks l)) = true := by
  show (toldL c ks l).all (pl 2) = true
  rw [List.all_eq_true]
  intro x hx
  obtain ⟨r, _, e⟩ := told_mem hx
  subst e
  exact pl_r (k := 0)
/-! ### the tests of rows -/
theorem ne_row : neD (rD r) (rD o) = some (.bool (!decide (r = o))) := neD_pl (n := 2) (by decide) (pl_r (k := 0)) (pl_r (k := 0)) rD_inj
theorem inL_row : inL (cD ch) (o.map cD) = decide (ch ∈ o) := by
  have h1 : pl 1 (cD ch) = true := pl_c
  have h2 : (o.map cD).all (pl 1) = true := pl_map (fun _ => pl_c) o
  refine Bool.eq_iff_iff.mpr ((inL_pl h1 h2).trans ?_)
  rw [decide_eq_true_eq, List.mem_map]
  exact ⟨fun ⟨b, hb, e⟩ => by rw [← cD_inj.mp e]; exact hb, fun h => ⟨ch, h, rfl⟩⟩
theorem sh_c : SeqAt.shaped (cD ch) = true := pl_shaped (n := 1) pl_c (by decide)
theorem sh_r : SeqAt.shaped (rD r) = true := pl_shaped (n := 2) (pl_r (k := 0)) (by decide)
theorem in_row : inD (cD ch) (rD o) = some (.bool (decide (ch ∈ o))) := by
  show (if (SeqAt.shaped (cD ch) && SeqAt.shaped (rD o)) = true then some (PyData.bool (inL (cD ch) (o.map cD))) else none) = _
  rw [sh_c, sh_r, if_pos (show (true && true) = true from rfl), inL_row]
theorem notIn_row : notInD (cD ch) (rD o) = some (.bool (!decide (ch ∈ o))) := by
  show (if (SeqAt.shaped (cD ch) && SeqAt.shaped (rD o)) = true then some (PyData.bool (!inL (cD ch) (o.map cD))) else none) = _
  rw [sh_c, sh_r, if_pos (show (true && true) = true from rfl), inL_row]
theorem notIn_rows {g : List (List Ch)} : notInD (rD r) (.list (g.map rD)) = some (.bool (!decide (r ∈ g))) := by
  have h1 : pl 2 (rD r) = true := pl_r (k := 0)
  have h2 : (g.map rD).all (pl 2) = true := pl_map (f := rD) (fun _ => pl_r (k := 0)) g
  have h3 : pl 3 (.list (g.map rD)) = true := h2
  show (if (SeqAt.shaped (rD r) && SeqAt.shaped (.list (g.map rD))) = true then some (PyData.bool (!inL (rD r) (g.map rD))) else none) = _
  rw [pl_shaped h1 (by decide), pl_shaped h3 (by decide), if_pos (show (true && true) = true from rfl)]
  have e : inL (rD r) (g.map rD) = decide (r ∈ g) := by
    refine Bool.eq_iff_iff.mpr ((inL_pl h1 h2).trans ?_)
    rw [decide_eq_true_eq, List.mem_map]
    exact ⟨fun ⟨b, hb, e⟩ => by rw [← rD_inj.mp e]; exact hb, fun h => ⟨r, h, rfl⟩⟩
  rw [e]
/-! ### lets_always -/
theorem seq_asg {f : FM} {pg : PGd} {s : FSt} {ρ ρ' : DEnv} {x : PyData} (h : f ρ = some x) (h2 : pg x ρ = some ρ') : fSeq (fAsg f pg) s ρ = s ρ' := by
  rw [a_Seq, a_Asg, h, Option.bind_some, h2]
  rfl
theorem seq_skip {u : FTt} {a s : FSt} {ρ : DEnv} (h : u ρ = some false) : fSeq (fIfS u a fNext) s ρ = s ρ := by
  rw [a_Seq, a_IfS, h]
  rfl
theorem seq_nx {a s : FSt} {ρ ρ' : DEnv} (h : a ρ = some (.nx ρ')) : fSeq a s ρ = s ρ' := by
  rw [a_Seq, h]
  rfl
def envL (c : Case) (ks : List Nat) (l : List Ch) (a3 a4 a5 a6 a7 a8 a9 a10 : Option Slot) : DEnv := [some (.d (caseD c)), some (.d (ksD ks)), some (.d (rD l)), a3, a4, a5, a6, a7, a8, a9, a10]
def lRows : FM := fLc (fItL (fCall F_all_lots (fCons (fCall lenF (fCons (fVar 2) (fNil))) (fNil)))) (pgName 6) (fYes) (fCall tupleF (fCons (fLc (fItT (fVar 6)) (pgName 7) (fYes) (fOp ixD (fVar 2) (fVar 7)) [7]) (fNil))) [6]
def lFound : FM := fLc (fItL (fVar 3)) (pgName 8) (fTest (fCall F_hold (fCons (fVar 0) (fCons (fVar 8) (fCons (fVar 1) (fCons (fC (.str "always")) (fNil))))))) (fVar 8) [8]
def lOne : FM := fAndV (fOp (neD) (fVar 8) (fVar 9)) (fCall allF (fCons (fLc (fItT (fVar 8)) (pgName 10) (fYes) (fOp (inD) (fVar 10) (fVar 9)) [10]) (fNil)))
def lLess : FM := fLc (fItL (fVar 4)) (pgName 8) (fTest (fCall anyF (fCons (fLc (fItL (fVar 4)) (pgName 9) (fYes) lOne [9]) (fNil)))) (fVar 8) [8]
def lLast : FM := fLc (fItL (fVar 4)) (pgName 8) (fTest (fOp (notInD) (fVar 8) (fVar 5))) (fVar 8) [8]
theorem always_body : b_lets_always = fSeq (fDrop (fCall F_need_case (fCons (fVar 0) (fNil)))) (fSeq (fDrop (fCall F_need_keys (fCons (fVar 0) (fCons (fVar 1) (fNil))))) (fSeq (fDrop (fCall F_need_lets (fCons (fVar 0) (fCons (fVar 2) (fNil))))) (fSeq (fIfS (fTest (fOp (cmpD fun i j => decide (j < i)) (fCall lenF (fCons (fVar 2) (fNil))) (fC (.int 6)))) (fNever) (fNext)) (fSeq (fAsg lRows (pgName 3)) (fSeq (fAsg lFound (pgName 4)) (fSeq (fAsg lLess (pgName 5)) (fRet (fCall sortF (fCons lLast (fNil)))))))))) := rfl
theorem map_getD (l : List Ch) : (List.range l.length).map (fun i => l.getD i (0, 0)) = l := by
  refine List.ext_getElem? fun i => ?_
  rw [List.getElem?_map]
  by_cases h : i < l.length
  · rw [List.getElem?_range h, List.getElem?_eq_getElem h]
    show some (l.getD i (0, 0)) = _
    rw [List.getD_eq_getElem?_getD, List.getElem?_eq_getElem h]
    rfl
  · rw [List.getElem?_eq_none (by rw [List.length_range]; omega), List.getElem?_eq_none (by omega)]
    rfl
theorem lRows_eq (hl : l.length ≤ 6) {a3 a4 a5 a6 a7 a8 a9 a10 : Option Slot} : lRows (envL c ks l a3 a4 a5 a6 a7 a8 a9 a10) = some (.list ((rowsG l).map rD)) := by
  have hz := rows_len (xs := List.range l.length) (by rw [List.length_range]; exact hl)
  have z : lRows (envL c ks l a3 a4 a5 a6 a7 a8 a9 a10) = some (.list ((rowsG (List.range l.length)).map fun lot => rD (lot.map fun i => l.getD i (0, 0)))) := by
    refine fLc_all (α := List Nat) (xs := rowsG (List.range l.length)) lotD (fun lot => rD (lot.map fun i => l.getD i (0, 0))) ?_ (by omega) fun lot hlot => ⟨envL c ks l a3 a4 a5 (some (.d (lotD lot))) a7 a8 a9 a10, rfl, ?_⟩
    · rw [a_ItL, call_eq (cons_eq (len_v (xs := l) (f := cD) rfl) rfl) (ev_all_lots hl)]
      rfl
    · have hs := rows_sub hlot
      have hll := List.Sublist.length_le hs
      rw [List.length_range] at hll
      have e : fLc (fItT (fVar 6)) (pgName 7) (fYes) (fOp ixD (fVar 2) (fVar 7)) [7] (envL c ks l a3 a4 a5 (some (.d (lotD lot))) a7 a8 a9 a10) = some (.list (lot.map fun i => cD (l.getD i (0, 0)))) := by
        refine fLc_all nD _ rfl (by omega) fun i hi => ⟨envL c ks l a3 a4 a5 (some (.d (lotD lot))) (some (.d (nD i))) a8 a9 a10, rfl, ?_⟩
        have hil : i < l.length := List.mem_range.mp (hs.subset hi)
        refine op_n rfl rfl ?_
        rw [ixT, List.getElem?_map, List.getD_eq_getElem?_getD, List.getElem?_eq_getElem hil]
        rfl
      refine call_eq (cons_eq e rfl) ?_
      show some (PyData.tuple _) = some (PyData.tuple ((lot.map fun i => l.getD i (0, 0)).map cD))
      rw [List.map_map]
      rfl
  have e : (rowsG (List.range l.length)).map (fun lot => rD (lot.map fun i => l.getD i (0, 0))) = ((rowsG (List.range l.length)).map (List.map fun i => l.getD i (0, 0))).map rD := by
    rw [List.map_map]
    rfl
  rw [z, e, rows_map, map_getD]
theorem lFound_eq (v : Val c) (hk : ks.length = c.row.length) (h : VLets c l) (hl : l.length ≤ 6) {a4 a5 a6 a7 a8 a9 a10 : Option Slot} : lFound (envL c ks l (some (.d (.list ((rowsG l).map rD)))) a4 a5 a6 a7 a8 a9 a10) = some (.list ((foundR c ks l).map rD)) := by
  have hz := rows_len hl
  refine fLc_eq rD rD (HB c ks) rfl (by omega) fun r hr => ⟨envL c ks l (some (.d (.list ((rowsG l).map rD)))) a4 a5 a6 a7 (some (.d (rD r))) a9 a10, rfl, ?_, fun _ => rfl⟩
  have hs := rows_sub hr
  have := List.Sublist.length_le hs
  exact test_eq (call_eq (cons_eq rfl (cons_eq rfl (cons_eq rfl (cons_eq rfl rfl)))) (hold_eq v hk (h.sub hs) (by omega)))
theorem lOne_eq (hr : r.length ≤ 1000) {a3 a4 a5 a6 a7 a10 : Option Slot} : lOne (envL c ks l a3 a4 a5 a6 a7 (some (.d (rD r))) (some (.d (rD o))) a10) = some (.bool (wider r o)) := by
  unfold lOne wider
  rw [a_AndV, test_eq (op_n rfl rfl ne_row), Option.bind_some]
  by_cases h : r = o
  · rw [decide_eq_true h]
    rfl
  · rw [decide_eq_false h, Bool.not_false, if_pos rfl, Bool.true_and]
    have e : fLc (fItT (fVar 8)) (pgName 10) (fYes) (fOp (inD) (fVar 10) (fVar 9)) [10] (envL c ks l a3 a4 a5 a6 a7 (some (.d (rD r))) (some (.d (rD o))) a10) = some (.list (r.map fun ch => .bool (decide (ch ∈ o)))) :=
      fLc_all cD _ rfl (by omega) fun ch hc => ⟨envL c ks l a3 a4 a5 a6 a7 (some (.d (rD r))) (some (.d (rD o))) (some (.d (cD ch))), rfl, op_n rfl rfl in_row⟩
    exact call_eq (cons_eq e rfl) (allF_map _ _)
theorem lLess_eq (hl : l.length ≤ 6) {a3 a5 a6 a7 a8 a9 a10 : Option Slot} : lLess (envL c ks l a3 (some (.d (.list ((foundR c ks l).map rD)))) a5 a6 a7 a8 a9 a10) = some (.list (((foundR c ks l).filter fun r => (foundR c ks l).any (wider r)).map rD)) := by
  have hz := found_len (c := c) (ks := ks) hl
  refine fLc_eq rD rD (fun r => (foundR c ks l).any (wider r)) rfl (by omega) fun r hr => ⟨envL c ks l a3 (some (.d (.list ((foundR c ks l).map rD)))) a5 a6 a7 (some (.d (rD r))) a9 a10, rfl, ?_, fun _ => rfl⟩
  have hs := List.Sublist.length_le (found_sub hr)
  have e : fLc (fItL (fVar 4)) (pgName 9) (fYes) lOne [9] (envL c ks l a3 (some (.d (.list ((foundR c ks l).map rD)))) a5 a6 a7 (some (.d (rD r))) a9 a10) = some (.list ((foundR c ks l).map fun o => .bool (wider r o))) :=
    fLc_all rD _ rfl (by omega) fun o ho => ⟨envL c ks l a3 (some (.d (.list ((foundR c ks l).map rD)))) a5 a6 a7 (some (.d (rD r))) (some (.d (rD o))) a10, rfl, lOne_eq (by omega)⟩
  exact test_eq (call_eq (cons_eq e rfl) (anyF_map _ _))
theorem lLast_eq (hl : l.length ≤ 6) {a3 a6 a7 a8 a9 a10 : Option Slot} : lLast (envL c ks l a3 (some (.d (.list ((foundR c ks l).map rD)))) (some (.d (.list (((foundR c ks l).filter fun r => (foundR c ks l).any (wider r)).map rD)))) a6 a7 a8 a9 a10) = some (.list ((greatR c ks l).map rD)) := by
  have hz := found_len (c := c) (ks := ks) hl
  have z := fLc_eq (fi := fItL (fVar 4)) (pg := pgName 8) (tt := fTest (fOp (notInD) (fVar 8) (fVar 5))) (te := fVar 8) (vs := [8]) (ρ := envL c ks l a3 (some (.d (.list ((foundR c ks l).map rD)))) (some (.d (.list (((foundR c ks l).filter fun r => (foundR c ks l).any (wider r)).map rD)))) a6 a7 a8 a9 a10)
    rD rD (fun r => !decide (r ∈ (foundR c ks l).filter fun r => (foundR c ks l).any (wider r))) (xs := foundR c ks l) rfl (by omega) fun r hr => ⟨envL c ks l a3 (some (.d (.list ((foundR c ks l).map rD)))) (some (.d (.list (((foundR c ks l).filter fun r => (foundR c ks l).any (wider r)).map rD)))) a6 a7 (some (.d (rD r))) a9 a10, rfl, test_eq (op_n rfl rfl notIn_rows), fun _ => rfl⟩
  unfold lLast
  rw [z]
  congr 3
  unfold greatR
  refine List.filter_congr fun r hr => ?_
  congr 1
  refine Bool.eq_iff_iff.mpr ?_
  rw [decide_eq_true_eq, List.mem_filter]
  exact ⟨fun h => h.2, fun h => ⟨hr, h⟩⟩
theorem ev_always (v : Val c) (hk : VKeys c ks) (h : VLets c l) (hl : l.length ≤ 6) : F_lets_always [caseD c, ksD ks, rD l] = some (.list (toldL c ks l)) := by
  unfold F_lets_always runF
  rw [always_body, seq_drop (call_eq (cons_eq rfl rfl) (ev_need_case v)), seq_drop (call_eq (cons_eq rfl (cons_eq rfl rfl)) (ev_need_keys v hk)), seq_drop (call_eq (cons_eq rfl (cons_eq rfl rfl)) (ev_need_lets v h (by omega)))]
  have e0 : fTest (fOp (cmpD fun i j => decide (j < i)) (fCall lenF (fCons (fVar 2) (fNil))) (fC (.int 6))) (startD 8 [caseD c, ksD ks, rD l]) = some false := by
    refine test_eq (op_n (len_v (xs := l) (f := cD) rfl) rfl ?_)
    show some (PyData.bool (decide ((6 : Int) < (l.length : Int)))) = _
    rw [decide_eq_false (by omega)]
  rw [seq_skip e0, show startD 8 [caseD c, ksD ks, rD l] = envL c ks l none none none none none none none none from rfl,
    seq_asg (ρ' := envL c ks l (some (.d (.list ((rowsG l).map rD)))) none none none none none none none) (lRows_eq hl) rfl,
    seq_asg (ρ' := envL c ks l (some (.d (.list ((rowsG l).map rD)))) (some (.d (.list ((foundR c ks l).map rD)))) none none none none none none) (lFound_eq v hk.1 h hl) rfl,
    seq_asg (ρ' := envL c ks l (some (.d (.list ((rowsG l).map rD)))) (some (.d (.list ((foundR c ks l).map rD)))) (some (.d (.list (((foundR c ks l).filter fun r => (foundR c ks l).any (wider r)).map rD)))) none none none none none) (lLess_eq hl) rfl,
    a_Ret, call_eq (cons_eq (lLast_eq hl) rfl) (sort_great hl)]
  rfl
/-! ### the law's greatest -/
def envG (c : Case) (ks : List Nat) (l : List Ch) (a3 a4 a5 a6 a7 a8 a9 : Option Slot) : DEnv := [some (.d (caseD c)), some (.d (rD l)), some (.d (ksD ks)), a3, a4, a5, a6, a7, a8, a9]
def gGrow : FSt := fAsg (fOp addD (fVar 3) (fLc (fItL (fVar 3)) (pgName 7) (fYes) (fOp addD (fVar 7) (fTup (fCons (fVar 4) (fNil)))) [7])) (pgName 3)
def gFound : FM := fLc (fItL (fVar 3)) (pgName 7) (fTest (fCall F_law_holds (fCons (fVar 0) (fCons (fVar 7) (fCons (fVar 2) (fCons (fC (.int 145)) (fNil))))))) (fVar 7) [7]
def gWider : FM := fLc (fItL (fVar 5)) (pgName 9) (fAnd (fTest (fOp (neD) (fVar 9) (fVar 7))) (fTest (fOp (eqD) (fLc (fItT (fVar 7)) (pgName 4) (fTest (fOp (notInD) (fVar 4) (fVar 9))) (fVar 4) [4]) (fLst (fNil))))) (fVar 9) [9]
def gBody : FSt := fSeq (fAsg gWider (pgName 8)) (fAsg (fOp addD (fVar 6) (fIf (fTest (fOp (eqD) (fVar 8) (fLst (fNil)))) (fLst (fCons (fVar 7) (fNil))) (fLst (fNil)))) (pgName 6))
theorem greatest_body : b_law_greatest = fSeq (fAsg (fLst (fCons (fTup (fNil)) (fNil))) (pgName 3)) (fSeq (fFor (fItT (fVar 1)) (pgName 4) gGrow) (fSeq (fPar 5 6 (fCons gFound (fCons (fLst (fNil)) (fNil)))) (fSeq (fFor (fItL (fVar 5)) (pgName 7) gBody) (fRet (fCall sortF (fCons (fVar 6) (fNil))))))) := rfl
theorem gGrow_eq {rows : List (List Ch)} (hr : rows.length ≤ 1000) (hb : ∀ r ∈ rows, r.length ≤ 1000) {a5 a6 a7 a8 a9 : Option Slot} : gGrow (envG c ks l (some (.d (.list (rows.map rD)))) (some (.d (cD ch))) a5 a6 a7 a8 a9) = some (.nx (envG c ks l (some (.d (.list ((grow rows ch).map rD)))) (some (.d (cD ch))) a5 a6 a7 a8 a9)) := by
  have e : fLc (fItL (fVar 3)) (pgName 7) (fYes) (fOp addD (fVar 7) (fTup (fCons (fVar 4) (fNil)))) [7] (envG c ks l (some (.d (.list (rows.map rD)))) (some (.d (cD ch))) a5 a6 a7 a8 a9) = some (.list (rows.map fun r => rD (r ++ [ch]))) := by
    refine fLc_all rD _ rfl (by omega) fun r hrm => ⟨envG c ks l (some (.d (.list (rows.map rD)))) (some (.d (cD ch))) a5 a6 (some (.d (rD r))) a8 a9, rfl, op_n rfl (tup_eq (cons_eq rfl rfl)) ?_⟩
    have := hb r hrm
    rw [show rD (r ++ [ch]) = .tuple (r.map cD ++ [cD ch]) by rw [show r.map cD ++ [cD ch] = (r ++ [ch]).map cD by rw [List.map_append]; rfl]]
    exact addT_eq (by rw [List.length_map]; show _ + 1 ≤ _; omega)
  unfold gGrow
  rw [a_Asg, op_n rfl e (addL_eq (by rw [List.length_map, List.length_map]; omega)), Option.bind_some]
  have e2 : rows.map rD ++ (rows.map fun r => rD (r ++ [ch])) = (grow rows ch).map rD := by
    unfold grow
    rw [List.map_append, List.map_map]
    rfl
  rw [e2]
  rfl
theorem gWider_eq (hl : l.length ≤ 6) (hr : r.length ≤ 1000) {a3 a4 a6 a8 a9 : Option Slot} : gWider (envG c ks l a3 a4 (some (.d (.list ((foundR c ks l).map rD)))) a6 (some (.d (rD r))) a8 a9) = some (.list (((foundR c ks l).filter (wider r)).map rD)) := by
  have hz := found_len (c := c) (ks := ks) hl
  refine fLc_eq rD rD (wider r) rfl (by omega) fun o ho => ⟨envG c ks l a3 a4 (some (.d (.list ((foundR c ks l).map rD)))) a6 (some (.d (rD r))) a8 (some (.d (rD o))), rfl, ?_, fun _ => rfl⟩
  have e : fLc (fItT (fVar 7)) (pgName 4) (fTest (fOp (notInD) (fVar 4) (fVar 9))) (fVar 4) [4] (envG c ks l a3 a4 (some (.d (.list ((foundR c ks l).map rD)))) a6 (some (.d (rD r))) a8 (some (.d (rD o)))) = some (.list ((r.filter fun ch => !decide (ch ∈ o)).map cD)) :=
    fLc_eq cD cD (fun ch => !decide (ch ∈ o)) rfl (by omega) fun ch hc => ⟨envG c ks l a3 (some (.d (cD ch))) (some (.d (.list ((foundR c ks l).map rD)))) a6 (some (.d (rD r))) a8 (some (.d (rD o))), rfl, test_eq (op_n rfl rfl notIn_row), fun _ => rfl⟩
  have e2 : eqD (.list ((r.filter fun ch => !decide (ch ∈ o)).map cD)) (.list []) = some (.bool (r.all fun ch => decide (ch ∈ o))) := by
    have hp : pl 2 (.list ((r.filter fun ch => !decide (ch ∈ o)).map cD)) = true := pl_map (k := 1) (f := cD) (fun _ => pl_c) _
    have z := eqD_pl (n := 2) (x := .list ((r.filter fun ch => !decide (ch ∈ o)).map cD)) (y := .list []) (p := ((r.filter fun ch => !decide (ch ∈ o)) = [])) (by decide) hp rfl (by rw [PyData.list.injEq, List.map_eq_nil_iff])
    rw [z]
    congr 2
    refine Bool.eq_iff_iff.mpr ?_
    rw [decide_eq_true_eq, List.filter_eq_nil_iff, List.all_eq_true]
    exact forall_congr' fun ch => imp_congr_right fun _ => by simp
  unfold wider
  rw [a_And, test_eq (op_n rfl rfl ne_row), Option.bind_some, show decide (o = r) = decide (r = o) from decide_eq_decide.mpr eq_comm]
  by_cases h : r = o
  · rw [decide_eq_true h]
    rfl
  · rw [decide_eq_false h, Bool.not_false, if_pos rfl, Bool.true_and]
    exact test_eq (op_n e (lst_eq rfl) e2)
theorem gBody_eq (hl : l.length ≤ 6) (hr : r.length ≤ 1000) {g : List (List Ch)} (hg : g.length ≤ 1000) {a3 a4 a8 a9 : Option Slot} : ∃ a8', gBody (envG c ks l a3 a4 (some (.d (.list ((foundR c ks l).map rD)))) (some (.d (.list (g.map rD)))) (some (.d (rD r))) a8 a9) =
    some (.nx (envG c ks l a3 a4 (some (.d (.list ((foundR c ks l).map rD)))) (some (.d (.list ((g ++ if (foundR c ks l).any (wider r) = true then [] else [r]).map rD)))) (some (.d (rD r))) a8' a9)) := by
  refine ⟨some (.d (.list (((foundR c ks l).filter (wider r)).map rD))), ?_⟩
  unfold gBody
  rw [a_Seq, a_Asg, gWider_eq hl hr, Option.bind_some]
  show fAsg (fOp addD (fVar 6) (fIf (fTest (fOp (eqD) (fVar 8) (fLst (fNil)))) (fLst (fCons (fVar 7) (fNil))) (fLst (fNil)))) (pgName 6) (envG c ks l a3 a4 (some (.d (.list ((foundR c ks l).map rD)))) (some (.d (.list (g.map rD)))) (some (.d (rD r))) (some (.d (.list (((foundR c ks l).filter (wider r)).map rD)))) a9) = _
  have e2 : eqD (.list (((foundR c ks l).filter (wider r)).map rD)) (.list []) = some (.bool (!(foundR c ks l).any (wider r))) := by
    have hp : pl 3 (.list (((foundR c ks l).filter (wider r)).map rD)) = true := pl_map (k := 2) (f := rD) (fun _ => pl_r (k := 0)) _
    have z := eqD_pl (n := 3) (x := .list (((foundR c ks l).filter (wider r)).map rD)) (y := .list []) (p := ((foundR c ks l).filter (wider r) = [])) (by decide) hp rfl (by rw [PyData.list.injEq, List.map_eq_nil_iff])
    rw [z]
    congr 2
    refine Bool.eq_iff_iff.mpr ?_
    rw [decide_eq_true_eq, List.filter_eq_nil_iff, Bool.not_eq_true', List.any_eq_false]
  have e3 : fIf (fTest (fOp (eqD) (fVar 8) (fLst (fNil)))) (fLst (fCons (fVar 7) (fNil))) (fLst (fNil)) (envG c ks l a3 a4 (some (.d (.list ((foundR c ks l).map rD)))) (some (.d (.list (g.map rD)))) (some (.d (rD r))) (some (.d (.list (((foundR c ks l).filter (wider r)).map rD)))) a9) = some (.list ((if (foundR c ks l).any (wider r) = true then [] else [r]).map rD)) := by
    rw [a_If, test_eq (op_n rfl (lst_eq rfl) e2), Option.bind_some]
    cases (foundR c ks l).any (wider r) <;> rfl
  have hlen : ((if (foundR c ks l).any (wider r) = true then [] else [r]).map rD).length ≤ 1 := by
    rw [List.length_map]
    split
    · exact Nat.zero_le _
    · exact Nat.le_refl _
  rw [a_Asg, op_n rfl e3 (addL_eq (by rw [List.length_map]; omega)), Option.bind_some, ← List.map_append]
  rfl
theorem fold_great (q : List Ch → Bool) : ∀ (xs g : List (List Ch)), xs.foldl (fun g r => g ++ if q r = true then [] else [r]) g = g ++ xs.filter fun r => !q r
  | [], g => by simp
  | r :: xs, g => by
    rw [List.foldl_cons, fold_great q xs, List.filter_cons]
    cases q r <;> simp
theorem ev_greatest (v : Val c) (hk : VKeys c ks) (h : VLets c l) (hl : l.length ≤ 6) : F_law_greatest [caseD c, rD l, ksD ks] = some (.list (toldL c ks l)) := by
  have hz := found_len (c := c) (ks := ks) hl
  have hrl := rows_len hl
  obtain ⟨ρ1, h1, a4, h2⟩ := for_ix (pg := pgName 4) (body := gGrow) cD (fun k ρ => ∃ a4, ρ = envG c ks l (some (.d (.list ((rowsG (l.take k)).map rD)))) a4 none none none none none) l 0 (envG c ks l (some (.d (.list [rD []]))) none none none none none none) (fun k ch ρ hi hr => by
    obtain ⟨a4, e⟩ := hr
    subst e
    rw [Nat.zero_add]
    have hkl := (List.getElem?_eq_some_iff.mp hi).1
    have hrk := rows_len (xs := l.take k) (by rw [List.length_take]; omega)
    refine ⟨envG c ks l (some (.d (.list ((rowsG (l.take k)).map rD)))) (some (.d (cD ch))) none none none none none, _, rfl, gGrow_eq (by omega) (fun r hr => ?_), some (.d (cD ch)), ?_⟩
    · have := List.Sublist.length_le (rows_sub hr)
      rw [List.length_take] at this
      omega
    · have e : rowsG (l.take (k + 1)) = grow (rowsG (l.take k)) ch := by
        have : l.take (k + 1) = l.take k ++ [ch] := by
          rw [List.take_add_one, hi]
          rfl
        unfold rowsG
        rw [this, List.foldl_append]
        rfl
      rw [e]) ⟨none, rfl⟩
  rw [Nat.zero_add, List.take_length] at h2
  subst h2
  have e1 : fFor (fItT (fVar 1)) (pgName 4) gGrow (envG c ks l (some (.d (.list [rD []]))) none none none none none none) = some (.nx (envG c ks l (some (.d (.list ((rowsG l).map rD)))) a4 none none none none none)) := h1
  have e2 : gFound (envG c ks l (some (.d (.list ((rowsG l).map rD)))) a4 none none none none none) = some (.list ((foundR c ks l).map rD)) := by
    refine fLc_eq rD rD (HB c ks) rfl (by omega) fun r hr => ⟨envG c ks l (some (.d (.list ((rowsG l).map rD)))) a4 none none (some (.d (rD r))) none none, rfl, ?_, fun _ => rfl⟩
    exact test_eq (call_eq (cons_eq rfl (cons_eq rfl (cons_eq rfl (cons_eq rfl rfl)))) (holds_eq v hk.1 (h.sub (rows_sub hr))))
  obtain ⟨ρ2, h3, a7, a8, a9, h4⟩ := for_ix (pg := pgName 7) (body := gBody) rD (fun k ρ => ∃ a7 a8 a9, ρ = envG c ks l (some (.d (.list ((rowsG l).map rD)))) a4 (some (.d (.list ((foundR c ks l).map rD)))) (some (.d (.list ((((foundR c ks l).take k).filter fun r => !(foundR c ks l).any (wider r)).map rD)))) a7 a8 a9)
    (foundR c ks l) 0 (envG c ks l (some (.d (.list ((rowsG l).map rD)))) a4 (some (.d (.list ((foundR c ks l).map rD)))) (some (.d (.list []))) none none none) (fun k r ρ hi hr => by
      obtain ⟨a7, a8, a9, e⟩ := hr
      subst e
      rw [Nat.zero_add]
      have hsl := List.Sublist.length_le (found_sub (List.mem_of_getElem? hi))
      have hgl : (((foundR c ks l).take k).filter fun r => !(foundR c ks l).any (wider r)).length ≤ 64 := Nat.le_trans (List.length_filter_le _ _) (by rw [List.length_take]; omega)
      obtain ⟨a8', e⟩ := gBody_eq (c := c) (ks := ks) (r := r) hl (by omega) (g := ((foundR c ks l).take k).filter fun r => !(foundR c ks l).any (wider r)) (by omega) (a3 := some (.d (.list ((rowsG l).map rD)))) (a4 := a4) (a8 := a8) (a9 := a9)
      refine ⟨_, _, rfl, e, some (.d (rD r)), a8', a9, ?_⟩
      have e3 : (((foundR c ks l).take (k + 1)).filter fun r => !(foundR c ks l).any (wider r)) = (((foundR c ks l).take k).filter fun r => !(foundR c ks l).any (wider r)) ++ if (foundR c ks l).any (wider r) = true then [] else [r] := by
        rw [List.take_add_one, hi, List.filter_append]
        congr 1
        cases hb : (foundR c ks l).any (wider r) <;> simp [hb]
      rw [e3]) ⟨none, none, none, rfl⟩
  rw [Nat.zero_add, List.take_length] at h4
  subst h4
  have e4 : fFor (fItL (fVar 5)) (pgName 7) gBody (envG c ks l (some (.d (.list ((rowsG l).map rD)))) a4 (some (.d (.list ((foundR c ks l).map rD)))) (some (.d (.list []))) none none none) = some (.nx (envG c ks l (some (.d (.list ((rowsG l).map rD)))) a4 (some (.d (.list ((foundR c ks l).map rD)))) (some (.d (.list ((greatR c ks l).map rD)))) a7 a8 a9)) := h3
  have e5 : fPar 5 6 (fCons gFound (fCons (fLst (fNil)) (fNil))) (envG c ks l (some (.d (.list ((rowsG l).map rD)))) a4 none none none none none) = some (.nx (envG c ks l (some (.d (.list ((rowsG l).map rD)))) a4 (some (.d (.list ((foundR c ks l).map rD)))) (some (.d (.list []))) none none none)) := by
    rw [par_eq (cons_eq e2 (cons_eq (lst_eq rfl) rfl))]
    rfl
  unfold F_law_greatest runF
  rw [greatest_body, seq_asg (ρ' := envG c ks l (some (.d (.list [rD []]))) none none none none none none) (x := .list [rD []]) rfl rfl, seq_nx e1, seq_nx e5, seq_nx e4, a_Ret, call_eq (cons_eq rfl rfl) (sort_great hl)]
  rfl
end
end DL
/-! P11: what is drawn. -/
namespace DL
open PySem L2
theorem lift_of {α : Type} {f : DEnv → Option α} {ρ : DEnv} {x : α} {Φ : α → Prop} (h : f ρ = some x) (k : Φ x) : lift f ρ Φ := ⟨x, h, k⟩
theorem roll_of {ρ : DEnv} {Φ : PyData → Prop} {i m : Nat} {f : FM} (hc : ρ[i]? = some (some .cup)) (hf : f ρ = some (nD m)) (h0 : 0 < m) (h1 : m < 1000000) (k : ∀ x, x < m → Φ (nD x)) : pCallS rollM (pslV i (pslD (lift f) pslNil)) ρ Φ := by
  refine ⟨.cup, hc, nD m, hf, (m : Int), rfl, by omega, by omega, fun z z0 z1 => ?_⟩
  obtain ⟨x, rfl⟩ := Int.eq_ofNat_of_zero_le z0
  exact k x (by omega)
theorem some_say {xs : List PyData} {Φ : PyData → Prop} (h0 : xs ≠ []) (hl : xs.length < 1000000) (k : ∀ x ∈ xs, Φ x) : M_law_some [.cup, .d (.list xs)] Φ := by
  refine ⟨.list xs, rfl, ?_⟩
  refine roll_of (m := xs.length) rfl rfl (List.length_pos_iff.mpr h0) hl fun x hx => ?_
  exact ⟨xs[x], (ixL xs x).trans (List.getElem?_eq_getElem hx), k _ (List.getElem_mem hx)⟩
theorem some_of {ρ : DEnv} {Φ : PyData → Prop} {i : Nat} {f : FM} {xs : List PyData} (hc : ρ[i]? = some (some .cup)) (hf : f ρ = some (.list xs)) (h0 : xs ≠ []) (hl : xs.length < 1000000) (k : ∀ x ∈ xs, Φ x) : pCallS M_law_some (pslV i (pslD (lift f) pslNil)) ρ Φ :=
  ⟨.cup, hc, .list xs, hf, some_say h0 hl k⟩
section
variable {α : Type} {pg : PGd} {te : PM} {vs : List Nat} {ρ : DEnv} {Φ : List PyData → Prop}
/-- a comprehension that draws each item -/
theorem lc_draw (en : α → PyData) (Gd : Nat → Prop) : ∀ (xs : List α) (acc : List PyData), (∀ x ∈ xs, ∃ ρ', pg (en x) (wipeD ρ vs) = some ρ' ∧ ∀ Ψ : PyData → Prop, (∀ y, Gd y → Ψ (nD y)) → te ρ' Ψ) → (∀ ys : List Nat, ys.length = xs.length → (∀ y ∈ ys, Gd y) → Φ (acc ++ ys.map nD)) → lcP pg (lift fYes) te vs (xs.map en) ρ acc Φ
  | [], acc, _, k => by
    have := k [] rfl fun y h => nomatch h
    rw [List.map_nil, List.append_nil] at this
    exact this
  | x :: xs, acc, h, k => by
    obtain ⟨ρ', h1, h2⟩ := h x (List.mem_cons_self ..)
    refine ⟨ρ', h1, true, rfl, ?_⟩
    dsimp only
    rw [if_pos rfl]
    refine h2 _ fun y hy => ?_
    refine lc_draw en Gd xs (acc ++ [nD y]) (fun z hz => h z (List.mem_cons_of_mem _ hz)) fun ys hl hg => ?_
    have := k (y :: ys) (by rw [List.length_cons, List.length_cons, hl]) fun z hz => by
      rcases List.mem_cons.mp hz with rfl | hz
      · exact hy
      · exact hg z hz
    rw [List.append_assoc]
    exact this
/-- a comprehension that draws which items it keeps -/
theorem lc_keep {tt : PTt} (en : α → PyData) : ∀ (xs : List α) (acc : List PyData), (∀ x ∈ xs, ∃ ρ', pg (en x) (wipeD ρ vs) = some ρ' ∧ (∀ Ψ : Bool → Prop, (∀ b, Ψ b) → tt ρ' Ψ) ∧ ∀ Ψ : PyData → Prop, Ψ (en x) → te ρ' Ψ) → (∀ ys : List α, ys.Sublist xs → Φ (acc ++ ys.map en)) → lcP pg tt te vs (xs.map en) ρ acc Φ
  | [], acc, _, k => by
    have := k [] (List.Sublist.refl _)
    rw [List.map_nil, List.append_nil] at this
    exact this
  | x :: xs, acc, h, k => by
    obtain ⟨ρ', h1, h2, h3⟩ := h x (List.mem_cons_self ..)
    refine ⟨ρ', h1, h2 _ fun b => ?_⟩
    cases b with
    | true =>
      rw [if_pos rfl]
      refine h3 _ ?_
      refine lc_keep en xs (acc ++ [en x]) (fun z hz => h z (List.mem_cons_of_mem _ hz)) fun ys hs => ?_
      rw [List.append_assoc]
      exact k (x :: ys) (hs.cons₂ x)
    | false =>
      rw [if_neg Bool.false_ne_true]
      exact lc_keep en xs acc (fun z hz => h z (List.mem_cons_of_mem _ hz)) fun ys hs => k ys (hs.cons x)
end
/-- a loop that draws -/
theorem for_draw {α : Type} {pg : PGd} {body : PSt} {Φ : Out → Prop} (en : α → PyData) (R : Nat → DEnv → Prop) : ∀ (xs : List α) (n : Nat) (ρ : DEnv), (∀ k x ρ, xs[k]? = some x → R (n + k) ρ → ∃ ρ1, pg (en x) ρ = some ρ1 ∧ ∀ Ψ : Out → Prop, (∀ ρ2, R (n + k + 1) ρ2 → Ψ (.nx ρ2)) → body ρ1 Ψ) → R n ρ → (∀ ρ', R (n + xs.length) ρ' → Φ (.nx ρ')) →
    forP pg body (xs.map en) ρ Φ
  | [], n, ρ, _, r, k => k ρ r
  | x :: xs, n, ρ, h, r, k => by
    obtain ⟨ρ1, h1, h2⟩ := h 0 x ρ rfl r
    refine ⟨ρ1, h1, h2 _ fun ρ2 r2 => ?_⟩
    refine for_draw en R xs (n + 1) ρ2 (fun j y ρ hj r => ?_) r2 fun ρ' r' => k ρ' (by rw [List.length_cons, show n + (xs.length + 1) = n + 1 + xs.length by omega]; exact r')
    have z := h (j + 1) y ρ hj (by rw [show n + (j + 1) = n + 1 + j by omega]; exact r)
    rw [show n + (j + 1) + 1 = n + 1 + j + 1 by omega] at z
    exact z
/-! ### keys -/
theorem lits (ns : List Nat) (P : PyData → Prop) (h : ∀ n ∈ ns, P (nD n)) : ∀ x ∈ ns.map nD, P x := fun x hx => by
  obtain ⟨n, hn, e⟩ := List.mem_map.mp hx
  subst e
  exact h n hn
theorem keys_say {c : Case} {Φ : PyData → Prop} (v : Val c) (k : ∀ ks, VKeys c ks → Φ (ksD ks)) : M_law_keys [.cup, .d (caseD c)] Φ := by
  have hn := v.n
  refine ⟨nD 1, rfl, ?_⟩
  refine some_of (xs := [0, 1, 1, 2, 4].map nD) rfl rfl (by decide) (by decide) (lits _ _ fun n hnm => ?_)
  have hm : n ≤ 4 := by
    simp at hnm
    omega
  refine ⟨nD (1 + n), add_n 1 n, ?_⟩
  refine ⟨[some .cup, some (.d (caseD c)), some (.d (nD (1 + n))), none], rfl, ?_⟩
  refine ⟨c.row.map nD, rfl, by rw [List.length_map]; show _ ≤ 1000000; omega, ?_⟩
  refine lc_draw nD (fun y => y < 1 + n) c.row [] (fun x hx => ⟨[some .cup, some (.d (caseD c)), some (.d (nD (1 + n))), some (.d (nD x))], rfl, fun Ψ h => roll_of (m := 1 + n) rfl rfl (by omega) (by omega) h⟩) fun ys hl hg => ?_
  rw [List.nil_append]
  exact ⟨_, rfl, k ys ⟨hl, fun y hy => by have := hg y hy; omega⟩⟩
end DL
/-! P12: a drawn case is valid. -/
namespace DL
open PySem L2
abbrev oR (p : List (Option Nat)) : PyData := .tuple (p.map oD)
def envC (many stays : Nat) (row : List Nat) (a4 a5 a6 a7 a8 a9 a10 a11 : Option Slot) : DEnv := [some .cup, some (.d (nD many)), some (.d (nD stays)), some (.d (.tuple (row.map nD))), a4, a5, a6, a7, a8, a9, a10, a11]
def cHere : FM := fLc (fRg1 (fCall lenF (fCons (fVar 3) (fNil)))) (pgName 11) (fTest (fOp (eqD) (fOp ixD (fVar 3) (fVar 11)) (fVar 8))) (fVar 11) [11]
def cHole : PM := pOrV (lift (fOp (eqD) (fVar 9) (fLst (fNil)))) (pAndV (lift (fOp (cmpD fun i j => decide (j < i)) (fVar 5) (fC (.int 0)))) (pOp (eqD) (pCallS rollM (pslV 0 (pslD (lift (fVar 5)) (pslNil)))) (lift (fC (.int 0)))))
def cOwn : PM := pOp addD (lift (fVar 7)) (pTup (pCons (pIf (lift (fTest (fVar 10))) (lift (fC .none)) (pCallS M_law_some (pslV 0 (pslD (lift (fVar 9)) (pslNil))))) (pNil)))
def cIn : PSt := pSeq (lift (fAsg cHere (pgName 9))) (pSeq (pAsg cHole (pgName 10)) (pAsg cOwn (pgName 7)))
def cOut : PSt := pSeq (lift (fAsg (fTup (fNil)) (pgName 7))) (pSeq (pFor (lift (fRg1 (fVar 1))) (pgName 8) cIn) (lift (fAsg (fOp addD (fVar 4) (fTup (fCons (fVar 7) (fNil)))) (pgName 4))))
def cMany : PM := pTup (pCons (pOp addD (lift (fC (.int 1))) (pCallS M_law_some (pslV 0 (pslD (lift (fLst (fCons (fC (.int 0)) (fCons (fC (.int 1)) (fCons (fC (.int 1)) (fCons (fC (.int 2)) (fCons (fC (.int 3)) (fNil)))))))) (pslNil))))) (pCons (pOp addD (lift (fC (.int 1))) (pCallS M_law_some (pslV 0 (pslD (lift (fLst (fCons (fC (.int 0)) (fCons (fC (.int 1)) (fCons (fC (.int 1)) (fCons (fC (.int 2)) (fNil))))))) (pslNil))))) (pNil)))
def cRow : PM := pCall tupleF (pCons (pLc (pRg1 (pCallS M_law_some (pslV 0 (pslD (lift (fLst (fCons (fC (.int 0)) (fCons (fC (.int 2)) (fCons (fC (.int 4)) (fCons (fC (.int 5)) (fCons (fC (.int 6)) (fCons (fC (.int 8)) (fCons (fC (.int 10)) (fCons (fC (.int 12)) (fNil))))))))))) (pslNil))))) (pgName 6) (lift fYes) (pCallS rollM (pslV 0 (pslD (lift (fVar 1)) (pslNil)))) [6]) (pNil))
def cHoles : PAa := pCons (lift (fTup (fNil))) (pCons (pCallS M_law_some (pslV 0 (pslD (lift (fLst (fCons (fC (.int 0)) (fCons (fC (.int 4)) (fCons (fC (.int 9)) (fCons (fC (.int 30)) (fNil))))))) (pslNil)))) (pNil))
def cLast : PM := pTup (pCons (lift (fTup (fCons (fVar 1) (fCons (fVar 3) (fNil))))) (pCons (lift (fVar 4)) (pCons (pCall tupleF (pCons (pLc (lift (fItT (fVar 3))) (pgName 6) (lift fYes) (pCallS rollM (pslV 0 (pslD (lift (fVar 2)) (pslNil)))) [6]) (pNil))) (pNil))))
theorem case_body : m_law_case = pSeq (pAsg cMany (pgTup (pgCons (pgName 1) (pgCons (pgName 2) (pgNil))))) (pSeq (pAsg cRow (pgName 3)) (pSeq (pPar 4 5 cHoles) (pSeq (pFor (lift (fRg1 (fCall lenF (fCons (fVar 3) (fNil))))) (pgName 6) cOut) (pRet cLast)))) := rfl
section
variable {many stays : Nat} {row : List Nat}
theorem hole_of {w : Nat} {here : List Nat} {hs : Nat} (hh : hs < 1000000) {a4 a6 a7 a10 a11 : Option Slot} {Φ : PyData → Prop} (k : ∀ b, (here = [] → b = true) → Φ (.bool b)) : cHole (envC many stays row a4 (some (.d (nD hs))) a6 a7 (some (.d (nD w))) (some (.d (.list (here.map nD)))) a10 a11) Φ := by
  have e : eqD (.list (here.map nD)) (.list []) = some (.bool (decide (here = []))) := by
    have hp : pl 2 (.list (here.map nD)) = true := pl_map (k := 1) (f := nD) (fun _ => pl_n) here
    exact eqD_pl (n := 2) (by decide) hp rfl (by rw [PyData.list.injEq, List.map_eq_nil_iff])
  refine lift_of (op_n rfl (lst_eq rfl) e) ⟨_, rfl, ?_⟩
  by_cases h : here = []
  · rw [decide_eq_true h]
    dsimp only
    rw [if_pos rfl]
    exact k true fun _ => rfl
  · rw [decide_eq_false h]
    dsimp only
    rw [if_neg Bool.false_ne_true]
    have e2 : cmpD (fun i j => decide (j < i)) (nD hs) (.int 0) = some (.bool (decide (0 < hs))) := by
      show some (PyData.bool (decide ((0 : Int) < (hs : Int)))) = _
      congr 2
      rw [decide_eq_decide]
      omega
    refine lift_of (op_n rfl rfl e2) ⟨_, rfl, ?_⟩
    by_cases h0 : 0 < hs
    · rw [decide_eq_true h0]
      dsimp only
      rw [if_pos rfl]
      refine roll_of (m := hs) rfl rfl h0 hh fun x _ => ?_
      exact ⟨.int 0, rfl, _, eqI, k _ fun z => absurd z h⟩
    · rw [decide_eq_false h0]
      dsimp only
      rw [if_neg Bool.false_ne_true]
      exact k false fun z => absurd z h
theorem own_of {own : List (Option Nat)} (hl : own.length ≤ 100) {w : Nat} {here : List Nat} (hhl : here.length ≤ 100) {b : Bool} (hb : here = [] → b = true) {a4 a5 a6 a8 a11 : Option Slot} {Φ : PyData → Prop} (k : ∀ o : Option Nat, (∀ x, o = some x → x ∈ here) → Φ (oR (own ++ [o]))) :
    cOwn (envC many stays row a4 a5 a6 (some (.d (oR own))) a8 (some (.d (.list (here.map nD)))) (some (.d (.bool b))) a11) Φ := by
  have fin : ∀ o : Option Nat, addD (oR own) (.tuple [oD o]) = some (oR (own ++ [o])) := fun o => by
    have e : own.map oD ++ [oD o] = (own ++ [o]).map oD := by rw [List.map_append]; rfl
    show addD (.tuple (own.map oD)) (.tuple [oD o]) = some (.tuple ((own ++ [o]).map oD))
    rw [← e]
    exact addT_eq (by rw [List.length_map]; show _ + 1 ≤ _; omega)
  refine lift_of (x := oR own) rfl ?_
  refine lift_of (x := b) rfl ?_
  cases b with
  | true => exact lift_of (x := PyData.none) rfl ⟨_, fin none, k none fun x e => (nomatch e)⟩
  | false =>
    rw [if_neg Bool.false_ne_true]
    have h0 : here ≠ [] := fun z => Bool.false_ne_true (hb z)
    refine some_of (xs := here.map nD) rfl rfl (fun z => h0 (List.map_eq_nil_iff.mp z)) (by rw [List.length_map]; omega) fun x hx => ?_
    obtain ⟨n, hn, e⟩ := List.mem_map.mp hx
    subst e
    exact ⟨_, fin (some n), k (some n) fun x e => by cases e; exact hn⟩
theorem in_of (hrow : row.length ≤ 12) {own : List (Option Nat)} (hl : own.length ≤ 100) {w hs : Nat} (hh : hs < 1000000) {a4 a6 a9 a10 a11 : Option Slot} {Ψ : Out → Prop}
    (k : ∀ (o : Option Nat) (b9 b10 : Option Slot), (∀ x, o = some x → row[x]? = some w) → Ψ (.nx (envC many stays row a4 (some (.d (nD hs))) a6 (some (.d (oR (own ++ [o])))) (some (.d (nD w))) b9 b10 a11))) :
    cIn (envC many stays row a4 (some (.d (nD hs))) a6 (some (.d (oR own))) (some (.d (nD w))) a9 a10 a11) Ψ := by
  have e : cHere (envC many stays row a4 (some (.d (nD hs))) a6 (some (.d (oR own))) (some (.d (nD w))) a9 a10 a11) = some (.list (((List.range row.length).filter fun x => decide (row[x]? = some w)).map nD)) := by
    refine fLc_eq nD nD _ (rg1_n (len_v (xs := row) (f := nD) rfl) (by omega)) (by rw [List.length_range]; omega) fun x hx => ⟨envC many stays row a4 (some (.d (nD hs))) a6 (some (.d (oR own))) (some (.d (nD w))) a9 a10 (some (.d (nD x))), rfl, ?_, fun _ => rfl⟩
    have hxl := List.mem_range.mp hx
    have e2 : eqD (nD row[x]) (nD w) = some (.bool (decide (row[x]? = some w))) := by
      refine eqD_pl (n := 0) (by decide) pl_n pl_n ?_
      rw [nD_inj, List.getElem?_eq_getElem hxl, Option.some.injEq]
    exact test_eq (op_n (op_n rfl rfl (ix_nat hxl)) rfl e2)
  have hfl : ((List.range row.length).filter fun x => decide (row[x]? = some w)).length ≤ 12 := Nat.le_trans (List.length_filter_le _ _) (by rw [List.length_range]; exact hrow)
  have hfm : ∀ x ∈ (List.range row.length).filter fun x => decide (row[x]? = some w), row[x]? = some w := fun x hx => of_decide_eq_true (List.mem_filter.mp hx).2
  generalize (List.range row.length).filter (fun x => decide (row[x]? = some w)) = here at e hfl hfm
  refine lift_of (x := .nx (envC many stays row a4 (some (.d (nD hs))) a6 (some (.d (oR own))) (some (.d (nD w))) (some (.d (.list (here.map nD)))) a10 a11)) (by rw [a_Asg, e]; rfl) ?_
  refine hole_of hh fun b hb => ?_
  refine ⟨_, rfl, ?_⟩
  refine own_of (own := own) hl (w := w) (here := here) (by omega) hb fun o ho => ?_
  exact ⟨_, rfl, k o _ _ fun x e => hfm x (ho x e)⟩
structure Puts (many : Nat) (row : List Nat) (p : List (Option Nat)) : Prop where
  len : p.length = many
  ok : ∀ (w x : Nat), p[w]? = some (some x) → row[x]? = some w
theorem out_of (hrow : row.length ≤ 12) (hm : many ≤ 6) {puts : List (List (Option Nat))} (hp : puts.length ≤ 100) {hs : Nat} (hh : hs < 1000000) {a6 a7 a8 a9 a10 a11 : Option Slot} {Ψ : Out → Prop}
    (k : ∀ (p : List (Option Nat)) (b7 b8 b9 b10 : Option Slot), Puts many row p → Ψ (.nx (envC many stays row (some (.d (.tuple ((puts ++ [p]).map oR)))) (some (.d (nD hs))) a6 b7 b8 b9 b10 a11))) :
    cOut (envC many stays row (some (.d (.tuple (puts.map oR)))) (some (.d (nD hs))) a6 a7 a8 a9 a10 a11) Ψ := by
  refine lift_of (x := .nx (envC many stays row (some (.d (.tuple (puts.map oR)))) (some (.d (nD hs))) a6 (some (.d (oR []))) a8 a9 a10 a11)) rfl ?_
  refine lift_of (rg1_n (b := many) rfl (by omega)) ?_
  refine for_draw nD (fun j ρ => ∃ (own : List (Option Nat)) (b8 b9 b10 : Option Slot), own.length = j ∧ (∀ (w x : Nat), own[w]? = some (some x) → row[x]? = some w) ∧ ρ = envC many stays row (some (.d (.tuple (puts.map oR)))) (some (.d (nD hs))) a6 (some (.d (oR own))) b8 b9 b10 a11)
    (List.range many) 0 _ (fun j w ρ hj hr => ?_) ⟨[], a8, a9, a10, rfl, fun w x h => (nomatch h), rfl⟩ fun ρ' hr => ?_
  · obtain ⟨own, b8, b9, b10, hl, hok, e⟩ := hr
    subst e
    obtain ⟨hjl, ej⟩ := List.getElem?_eq_some_iff.mp hj
    rw [List.length_range] at hjl
    rw [List.getElem_range] at ej
    subst ej
    rw [Nat.zero_add] at hl
    refine ⟨envC many stays row (some (.d (.tuple (puts.map oR)))) (some (.d (nD hs))) a6 (some (.d (oR own))) (some (.d (nD j))) b9 b10 a11, rfl, fun Ψ h => ?_⟩
    refine in_of hrow (own := own) (by omega) hh fun o c9 c10 ho => h _ ⟨own ++ [o], _, c9, c10, by rw [List.length_append, hl, List.length_singleton]; omega, fun w x hw => ?_, rfl⟩
    rw [List.getElem?_append] at hw
    split at hw
    · exact hok w x hw
    · rename_i hge
      by_cases hwj : w = j
      · subst hwj
        rw [hl, Nat.sub_self] at hw
        exact ho x (Option.some.inj hw)
      · rw [List.getElem?_eq_none (by rw [List.length_singleton]; omega)] at hw
        cases hw
  · obtain ⟨own, b8, b9, b10, hl, hok, e⟩ := hr
    subst e
    rw [Nat.zero_add, List.length_range] at hl
    refine lift_of (x := .nx (envC many stays row (some (.d (.tuple ((puts ++ [own]).map oR)))) (some (.d (nD hs))) a6 (some (.d (oR own))) b8 b9 b10 a11)) ?_ (k own _ b8 b9 b10 ⟨hl, hok⟩)
    have e1 : puts.map oR ++ [oR own] = (puts ++ [own]).map oR := by rw [List.map_append]; rfl
    rw [a_Asg, op_n (x := .tuple (puts.map oR)) rfl (tup_eq (cons_eq rfl rfl)) (addT_eq (by rw [List.length_map]; show _ + 1 ≤ _; omega)), Option.bind_some, e1]
    rfl
end
theorem case_say {Φ : PyData → Prop} (k : ∀ c, Val c → c.row.length ≠ 1 → Φ (caseD c)) : M_law_case [.cup] Φ := by
  unfold M_law_case
  rw [case_body]
  refine lift_of (x := nD 1) rfl ?_
  refine some_of (xs := [0, 1, 1, 2, 3].map nD) rfl rfl (by decide) (by decide) (lits _ _ fun m0 hm0 => ?_)
  have hm1 : m0 ≤ 3 := by
    simp at hm0
    omega
  refine ⟨nD (1 + m0), add_n 1 m0, ?_⟩
  refine lift_of (x := nD 1) rfl ?_
  refine some_of (xs := [0, 1, 1, 2].map nD) rfl rfl (by decide) (by decide) (lits _ _ fun s0 hs0 => ?_)
  have hs1 : s0 ≤ 2 := by
    simp at hs0
    omega
  refine ⟨nD (1 + s0), add_n 1 s0, ?_⟩
  refine ⟨[some .cup, some (.d (nD (1 + m0))), some (.d (nD (1 + s0))), none, none, none, none, none, none, none, none, none], rfl, ?_⟩
  refine some_of (xs := [0, 2, 4, 5, 6, 8, 10, 12].map nD) rfl rfl (by decide) (by decide) (lits _ _ fun n hn => ?_)
  have hn1 : n ≤ 12 ∧ n ≠ 1 := by
    simp at hn
    omega
  refine ⟨(n : Int), rfl, rngOk_n (by omega), ?_⟩
  rw [range0]
  refine ⟨by rw [List.length_map, List.length_range]; show _ ≤ 1000000; omega, ?_⟩
  refine lc_draw nD (fun y => y < 1 + m0) (List.range n) [] (fun x hx => ⟨[some .cup, some (.d (nD (1 + m0))), some (.d (nD (1 + s0))), none, none, none, some (.d (nD x)), none, none, none, none, none], rfl, fun Ψ h => roll_of (m := 1 + m0) rfl rfl (by omega) (by omega) h⟩) fun row hrl hrg => ?_
  rw [List.length_range] at hrl
  rw [List.nil_append]
  refine ⟨.tuple (row.map nD), rfl, ?_⟩
  refine ⟨envC (1 + m0) (1 + s0) row none none none none none none none none, rfl, ?_⟩
  refine lift_of (x := .tuple []) rfl ?_
  refine some_of (xs := [0, 4, 9, 30].map nD) rfl rfl (by decide) (by decide) (lits _ _ fun hs hhs => ?_)
  have hh : hs < 1000000 := by
    simp at hhs
    omega
  refine ⟨.tuple [], nD hs, rfl, ?_⟩
  show pSeq (pFor (lift (fRg1 (fCall lenF (fCons (fVar 3) (fNil))))) (pgName 6) cOut) (pRet cLast) (envC (1 + m0) (1 + s0) row (some (.d (.tuple []))) (some (.d (nD hs))) none none none none none none) _
  refine lift_of (rg1_n (len_v (xs := row) (f := nD) rfl) (by omega)) ?_
  refine for_draw nD (fun j ρ => ∃ (puts : List (List (Option Nat))) (b6 b7 b8 b9 b10 : Option Slot), puts.length = j ∧ (∀ p ∈ puts, Puts (1 + m0) row p) ∧ ρ = envC (1 + m0) (1 + s0) row (some (.d (.tuple (puts.map oR)))) (some (.d (nD hs))) b6 b7 b8 b9 b10 none)
    (List.range row.length) 0 _ (fun j w ρ hj hr => ?_) ⟨[], none, none, none, none, none, rfl, fun p h => (nomatch h), rfl⟩ fun ρ' hr => ?_
  · obtain ⟨puts, b6, b7, b8, b9, b10, hl, hok, e⟩ := hr
    subst e
    obtain ⟨hjl, ej⟩ := List.getElem?_eq_some_iff.mp hj
    rw [List.length_range] at hjl
    rw [Nat.zero_add] at hl
    refine ⟨envC (1 + m0) (1 + s0) row (some (.d (.tuple (puts.map oR)))) (some (.d (nD hs))) (some (.d (nD w))) b7 b8 b9 b10 none, rfl, fun Ψ h => ?_⟩
    refine out_of (by omega) (by omega) (puts := puts) (by omega) hh fun p c7 c8 c9 c10 hp => h _ ⟨puts ++ [p], _, c7, c8, c9, c10, by rw [List.length_append, hl, List.length_singleton]; omega, fun q hq => ?_, rfl⟩
    rcases List.mem_append.mp hq with hq | hq
    · exact hok q hq
    · rw [List.mem_singleton] at hq
      rw [hq]
      exact hp
  · obtain ⟨puts, b6, b7, b8, b9, b10, hl, hok, e⟩ := hr
    subst e
    rw [Nat.zero_add, List.length_range] at hl
    refine lift_of (x := .tuple [nD (1 + m0), .tuple (row.map nD)]) rfl ?_
    refine lift_of (x := .tuple (puts.map oR)) rfl ?_
    refine lift_of (x := row.map nD) rfl ?_
    refine ⟨by rw [List.length_map]; show _ ≤ 1000000; omega, ?_⟩
    refine lc_draw nD (fun y => y < 1 + s0) row [] (fun x hx => ⟨envC (1 + m0) (1 + s0) row (some (.d (.tuple (puts.map oR)))) (some (.d (nD hs))) (some (.d (nD x))) b7 b8 b9 b10 none, rfl, fun Ψ h => roll_of (m := 1 + s0) rfl rfl (by omega) (by omega) h⟩) fun stays hsl hsg => ?_
    rw [List.nil_append]
    refine ⟨.tuple (stays.map nD), rfl, ?_⟩
    exact k ⟨1 + m0, row, puts, stays⟩ ⟨by show 1 + m0 ≤ 6; omega, by show row.length ≤ 12; omega, fun w hw => hrg w hw, hl, fun p hp => (hok p hp).len, fun p hp => (hok p hp).ok, hsl, fun s hs => by have := hsg s hs; omega⟩ (by show row.length ≠ 1; omega)
end DL
/-! P13: right; the law says True. -/
namespace DL
open PySem L2
def rOnce : FM := fCall tupleF (fCons (fLc (fItL (fVar 3)) (pgName 8) (fTest (fCall F_law_holds (fCons (fVar 1) (fCons (fTup (fCons (fVar 8) (fNil))) (fCons (fVar 2) (fCons (fC (.int 1)) (fNil))))))) (fVar 8) [8]) (fNil))
def rBad : FTt := fOr (fTest (fOp (neD) (fCall F_lets_once (fCons (fVar 1) (fCons (fVar 2) (fNil)))) (fVar 4))) (fTest (fOp (isNotB) (fCall F_keys_hold (fCons (fVar 1) (fCons (fVar 4) (fCons (fVar 2) (fCons (fC (.str "once")) (fNil)))))) (fC (.bool true))))
def rSome : PM := pLc (lift (fItL (fVar 3))) (pgName 8) (pTest (pOp (eqD) (pCallS rollM (pslV 0 (pslD (pCallS M_law_some (pslV 0 (pslD (lift (fLst (fCons (fC (.int 1)) (fCons (fC (.int 2)) (fCons (fC (.int 3)) (fNil)))))) (pslNil)))) (pslNil)))) (lift (fC (.int 0))))) (lift (fVar 8)) [8]
def rLets : PM := pCall tupleF (pCons (pTo (lift (fVar 5)) (pCallS M_law_some (pslV 0 (pslD (lift (fLst (fCons (fC (.int 3)) (fCons (fC (.int 4)) (fCons (fC (.int 5)) (fNil)))))) (pslNil))))) (pNil))
def rTold : FM := fCall F_lets_always (fCons (fVar 1) (fCons (fVar 2) (fCons (fVar 6) (fNil))))
def rBad2 : FTt := fTest (fOp (neD) (fVar 7) (fCall F_law_greatest (fCons (fVar 1) (fCons (fVar 6) (fCons (fVar 2) (fNil))))))
def rLast : FM := fOp (eqD) (fLc (fItL (fVar 7)) (pgName 9) (fTest (fOp (isNotB) (fCall F_keys_hold (fCons (fVar 1) (fCons (fVar 9) (fCons (fVar 2) (fCons (fC (.str "always")) (fNil)))))) (fC (.bool true)))) (fVar 9) [9]) (fLst (fNil))
theorem right_body : m_law_right = pSeq (lift (fAsg (fCall F_law_changes (fCons (fOp ixD (fOp ixD (fVar 1) (fC (.int 0))) (fC (.int 0))) (fNil))) (pgName 3))) (pSeq (lift (fAsg rOnce (pgName 4))) (pSeq (lift (fIfS rBad (fRet (fC (.bool false))) (fNext))) (pSeq (pAsg rSome (pgName 5)) (pSeq (pAsg rLets (pgName 6)) (lift (fSeq (fAsg rTold (pgName 7)) (fSeq (fIfS rBad2 (fRet (fC (.bool false))) (fNext)) (fRet rLast)))))))) := rfl
def envR (c : Case) (ks : List Nat) (a3 a4 a5 a6 a7 a8 a9 : Option Slot) : DEnv := [some .cup, some (.d (caseD c)), some (.d (ksD ks)), a3, a4, a5, a6, a7, a8, a9]
theorem cutTo (xs : List PyData) (k : Nat) : cutD xs none (some (k : Int)) = xs.take k := by
  unfold cutD
  rw [show HT.sIx xs.length 0 none = 0 from rfl, HT.sIx_nat, List.drop_zero, Nat.sub_zero]
  by_cases h : k ≤ xs.length
  · rw [Nat.min_eq_left h]
  · rw [Nat.min_eq_right (by omega), List.take_length, List.take_of_length_le (by omega)]
section
variable {c : Case} {ks : List Nat}
theorem rOnce_eq (v : Val c) (hk : VKeys c ks) {a4 a5 a6 a7 a8 a9 : Option Slot} : rOnce (envR c ks (some (.d (.list ((everyT c.many).map cD)))) a4 a5 a6 a7 a8 a9) = some (rD ((everyT c.many).filter (onceB c (alikeT c ks)))) := by
  have hl := every_len v.m
  have e : fLc (fItL (fVar 3)) (pgName 8) (fTest (fCall F_law_holds (fCons (fVar 1) (fCons (fTup (fCons (fVar 8) (fNil))) (fCons (fVar 2) (fCons (fC (.int 1)) (fNil))))))) (fVar 8) [8] (envR c ks (some (.d (.list ((everyT c.many).map cD)))) a4 a5 a6 a7 a8 a9) = some (.list (((everyT c.many).filter (onceB c (alikeT c ks))).map cD)) := by
    refine fLc_eq cD cD (onceB c (alikeT c ks)) rfl (by omega) fun ch hch => ⟨envR c ks (some (.d (.list ((everyT c.many).map cD)))) a4 a5 a6 a7 (some (.d (cD ch))) a9, rfl, ?_, fun _ => rfl⟩
    exact test_eq (call_eq (cons_eq rfl (cons_eq (tup_eq (cons_eq rfl rfl)) (cons_eq rfl (cons_eq rfl rfl)))) (once_agree v hk hch))
  exact call_eq (cons_eq e rfl) rfl
theorem rBad_eq (v : Val c) (hk : VKeys c ks) {a3 a5 a6 a7 a8 a9 : Option Slot} : rBad (envR c ks a3 (some (.d (rD ((everyT c.many).filter (onceB c (alikeT c ks)))))) a5 a6 a7 a8 a9) = some false := by
  unfold rBad
  have e : neD (rD ((everyT c.many).filter (onceB c (alikeT c ks)))) (rD ((everyT c.many).filter (onceB c (alikeT c ks)))) = some (.bool false) := by
    rw [ne_row, decide_eq_true rfl]
    rfl
  rw [a_Or, test_eq (op_n (call_eq (cons_eq rfl (cons_eq rfl rfl)) (ev_lets_once v hk)) rfl e), Option.bind_some, if_neg Bool.false_ne_true]
  exact test_eq (op_n (call_eq (cons_eq rfl (cons_eq rfl (cons_eq rfl (cons_eq rfl rfl)))) (once_keys v hk)) rfl rfl)
theorem always_keys (v : Val c) (hk : VKeys c ks) {l r : List Ch} (h : VLets c l) (hl : l.length ≤ 6) (hr : r ∈ greatR c ks l) : F_keys_hold [caseD c, rD r, ksD ks, .str "always"] = some (.bool true) := by
  have hf := (List.mem_filter.mp hr).1
  have hs := found_sub hf
  have hle := List.Sublist.length_le hs
  have hv := h.sub hs
  have z := hold_eq v hk.1 hv (by omega)
  rw [(List.mem_filter.mp hf).2] at z
  exact ev_keys_hold v hk hv (by omega) ev_often2 z
theorem tail_eq (v : Val c) (hk : VKeys c ks) {l : List Ch} (h : VLets c l) (hl : l.length ≤ 6) {a3 a4 a5 a7 a8 a9 : Option Slot} : fSeq (fAsg rTold (pgName 7)) (fSeq (fIfS rBad2 (fRet (fC (.bool false))) (fNext)) (fRet rLast)) (envR c ks a3 a4 a5 (some (.d (rD l))) a7 a8 a9) = some (.rt (.bool true)) := by
  have e1 : rTold (envR c ks a3 a4 a5 (some (.d (rD l))) a7 a8 a9) = some (.list (toldL c ks l)) := call_eq (cons_eq rfl (cons_eq rfl (cons_eq rfl rfl))) (ev_always v hk h hl)
  have e2 : neD (.list (toldL c ks l)) (.list (toldL c ks l)) = some (.bool false) := (neD_pl (n := 3) (p := True) (by decide) told_pl told_pl (iff_of_true rfl True.intro)).trans rfl
  have e3 : rBad2 (envR c ks a3 a4 a5 (some (.d (rD l))) (some (.d (.list (toldL c ks l)))) a8 a9) = some false := test_eq (op_n rfl (call_eq (cons_eq rfl (cons_eq rfl (cons_eq rfl rfl))) (ev_greatest v hk h hl)) e2)
  have htl := told_len (c := c) (ks := ks) hl
  have e4 : fLc (fItL (fVar 7)) (pgName 9) (fTest (fOp (isNotB) (fCall F_keys_hold (fCons (fVar 1) (fCons (fVar 9) (fCons (fVar 2) (fCons (fC (.str "always")) (fNil)))))) (fC (.bool true)))) (fVar 9) [9] (envR c ks a3 a4 a5 (some (.d (rD l))) (some (.d (.list (toldL c ks l)))) a8 a9) = some (.list (((toldL c ks l).filter fun _ => false).map id)) := by
    refine fLc_eq (xs := toldL c ks l) id id (fun _ => false) (by rw [List.map_id]; rfl) (by omega) fun x hx => ⟨envR c ks a3 a4 a5 (some (.d (rD l))) (some (.d (.list (toldL c ks l)))) a8 (some (.d x)), rfl, ?_, fun z => (nomatch z)⟩
    obtain ⟨r, hr, e⟩ := told_mem hx
    subst e
    exact test_eq (op_n (call_eq (cons_eq rfl (cons_eq rfl (cons_eq rfl (cons_eq rfl rfl)))) (always_keys v hk h hl hr)) rfl rfl)
  have e5 : ((toldL c ks l).filter fun _ => false) = [] := List.filter_eq_nil_iff.mpr fun _ _ => Bool.false_ne_true
  rw [e5] at e4
  have e6 : eqD (.list []) (.list []) = some (.bool true) := (eqD_pl (n := 1) (p := True) (by decide) rfl rfl (iff_of_true rfl True.intro)).trans rfl
  rw [seq_asg (ρ' := envR c ks a3 a4 a5 (some (.d (rD l))) (some (.d (.list (toldL c ks l)))) a8 a9) e1 rfl, seq_skip e3, a_Ret]
  unfold rLast
  rw [op_n e4 (lst_eq rfl) e6]
  rfl
theorem right_say {Φ : PyData → Prop} (v : Val c) (hk : VKeys c ks) (k : Φ (.bool true)) : M_law_right [.cup, .d (caseD c), .d (ksD ks)] Φ := by
  unfold M_law_right
  rw [right_body]
  have hl := every_len v.m
  have e1 : fAsg (fCall F_law_changes (fCons (fOp ixD (fOp ixD (fVar 1) (fC (.int 0))) (fC (.int 0))) (fNil))) (pgName 3) (startS 7 [.cup, .d (caseD c), .d (ksD ks)]) = some (.nx (envR c ks (some (.d (.list ((everyT c.many).map cD)))) none none none none none none)) := by
    rw [a_Asg, call_eq (cons_eq (op_n (z := nD c.many) (op_n rfl rfl (case0 c)) rfl (ixT0 _)) rfl) (ev_law_changes v.m)]
    rfl
  refine lift_of e1 ?_
  have e2 : fAsg rOnce (pgName 4) (envR c ks (some (.d (.list ((everyT c.many).map cD)))) none none none none none none) = some (.nx (envR c ks (some (.d (.list ((everyT c.many).map cD)))) (some (.d (rD ((everyT c.many).filter (onceB c (alikeT c ks)))))) none none none none none)) := by
    rw [a_Asg, rOnce_eq v hk]
    rfl
  refine lift_of e2 ?_
  have e3 : fIfS rBad (fRet (fC (.bool false))) (fNext) (envR c ks (some (.d (.list ((everyT c.many).map cD)))) (some (.d (rD ((everyT c.many).filter (onceB c (alikeT c ks)))))) none none none none none) = some (.nx (envR c ks (some (.d (.list ((everyT c.many).map cD)))) (some (.d (rD ((everyT c.many).filter (onceB c (alikeT c ks)))))) none none none none none)) := by
    rw [a_IfS, rBad_eq v hk]
    rfl
  refine lift_of e3 ?_
  refine lift_of (x := (everyT c.many).map cD) rfl ⟨by rw [List.length_map]; show _ ≤ 1000000; omega, ?_⟩
  refine lc_keep cD (everyT c.many) [] (fun ch hch => ⟨envR c ks (some (.d (.list ((everyT c.many).map cD)))) (some (.d (rD ((everyT c.many).filter (onceB c (alikeT c ks)))))) none none none (some (.d (cD ch))) none, rfl, fun Ψ hΨ => ?_, fun Ψ hΨ => lift_of rfl hΨ⟩) fun here hs => ?_
  · refine ⟨.cup, rfl, ?_⟩
    refine some_of (xs := [1, 2, 3].map nD) rfl rfl (by decide) (by decide) (lits _ _ fun m hm => ?_)
    have hm1 : 0 < m ∧ m ≤ 3 := by
      simp at hm
      omega
    refine ⟨(m : Int), rfl, by omega, by omega, fun z z0 z1 => ?_⟩
    exact ⟨.int 0, rfl, _, eqI, _, rfl, hΨ _⟩
  rw [List.nil_append]
  refine ⟨_, rfl, ?_⟩
  refine lift_of (x := .list (here.map cD)) rfl ?_
  refine some_of (xs := [3, 4, 5].map nD) rfl rfl (by decide) (by decide) (lits _ _ fun m hm => ?_)
  have hm1 : m ≤ 5 := by
    simp at hm
    omega
  have hsub : (here.take m).Sublist (everyT c.many) := (List.take_sublist m here).trans hs
  have hcut : slD (.list (here.map cD)) none (some (m : Int)) = some (.list ((here.take m).map cD)) := by
    show some (PyData.list (cutD (here.map cD) none (some (m : Int)))) = _
    rw [cutTo, List.map_take]
  refine ⟨(m : Int), _, rfl, hcut, ?_⟩
  refine ⟨rD (here.take m), rfl, ?_⟩
  refine ⟨envR c ks (some (.d (.list ((everyT c.many).map cD)))) (some (.d (rD ((everyT c.many).filter (onceB c (alikeT c ks)))))) (some (.d (.list (here.map cD)))) (some (.d (rD (here.take m)))) none none none, rfl, ?_⟩
  exact lift_of (tail_eq v hk ((every_v v).sub hsub) (by rw [List.length_take]; omega)) k
end
/-! ### the law -/
def lBad : PTt := pOr (pNot (pTest (pCallS M_law_right (pslV 1 (pslD (lift (fVar 3)) (pslD (pCallS M_law_keys (pslV 1 (pslD (lift (fVar 3)) (pslNil)))) (pslNil))))))) (pNot (pTest (pCallS M_law_right (pslV 1 (pslD (lift (fVar 3)) (pslD (lift (fOp mulA (fTup (fCons (fC (.int 0)) (fNil))) (fCall lenF (fCons (fOp ixD (fOp ixD (fVar 3) (fC (.int 0))) (fC (.int 1))) (fNil))))) (pslNil)))))))
def lTurn : PSt := pSeq (pAsg (pCallS M_law_case (pslV 1 (pslNil))) (pgName 3)) (pIfS lBad (lift (fRet (fC (.bool false)))) (lift (fNext)))
theorem law_body : m_law = pSeq (pFor (lift (fRg1 (fC (.int 3)))) (pgName 2) lTurn) (lift f_law_tail) := rfl
theorem tail_true : ∀ a b c d : Option Slot, f_law_tail [a, b, c, d, none, none, none, none] = some (.rt (.bool true)) := fun a b c d => by
  have h : (match f_law_tail [a, b, c, d, none, none, none, none] with | some (.rt (.bool b)) => b | _ => false) = true := by kernel_rfl
  split at h
  · rename_i b e
    rw [e, h]
  · cases h
theorem zeros {c : Case} (v : Val c) (h1 : c.row.length ≠ 1) : mulA (.tuple [.int 0]) (nD c.row.length) = some (ksD (List.replicate c.row.length 0)) := by
  have hn := v.n
  refine (if_pos ⟨rfl, by omega, by omega, by omega⟩).trans ?_
  show some (PyData.tuple (List.replicate ((c.row.length : Int).toNat) (.int 0))) = some (PyData.tuple ((List.replicate c.row.length 0).map nD))
  rw [Int.toNat_natCast, List.map_replicate]
  rfl
theorem zeros_v {c : Case} : VKeys c (List.replicate c.row.length 0) := ⟨List.length_replicate, fun k hk => by rw [(List.mem_replicate.mp hk).2]; exact Nat.zero_le _⟩
theorem turn_say {a0 a2 a3 : Option Slot} {Ψ : Out → Prop} (k : ∀ a3, Ψ (.nx [a0, some .cup, a2, a3, none, none, none, none])) : lTurn [a0, some .cup, a2, a3, none, none, none, none] Ψ := by
  refine ⟨.cup, rfl, case_say fun c v hn => ?_⟩
  refine ⟨[a0, some .cup, a2, some (.d (caseD c)), none, none, none, none], rfl, ?_⟩
  refine ⟨.cup, rfl, caseD c, rfl, .cup, rfl, caseD c, rfl, keys_say v fun ks hk => ?_⟩
  refine right_say v hk ⟨true, rfl, ?_⟩
  have e : fOp mulA (fTup (fCons (fC (.int 0)) (fNil))) (fCall lenF (fCons (fOp ixD (fOp ixD (fVar 3) (fC (.int 0))) (fC (.int 1))) (fNil))) [a0, some .cup, a2, some (.d (caseD c)), none, none, none, none] = some (ksD (List.replicate c.row.length 0)) := by
    refine op_n (tup_eq (cons_eq rfl rfl)) (call_eq (z := nD c.row.length) (cons_eq (op_n (op_n rfl rfl (case0 c)) rfl (ixT1 _)) rfl) ?_) (zeros v hn)
    rw [lenT, List.length_map]
  refine ⟨.cup, rfl, caseD c, rfl, _, e, ?_⟩
  exact right_say v zeros_v ⟨true, rfl, lift_of rfl (k _)⟩
theorem law_says : LawSays := by
  unfold LawSays
  rw [law_body]
  refine lift_of (rg1_n (b := 3) rfl (by decide)) ?_
  refine for_draw nD (fun _ ρ => ∃ a2 a3, ρ = [none, some .cup, a2, a3, none, none, none, none]) (List.range 3) 0 _ (fun j x ρ _ hr => ?_) ⟨none, none, rfl⟩ fun ρ' hr => ?_
  · obtain ⟨a2, a3, e⟩ := hr
    subst e
    exact ⟨[none, some .cup, some (.d (nD x)), a3, none, none, none, none], rfl, fun Ψ h => turn_say fun a3 => h _ ⟨_, a3, rfl⟩⟩
  · obtain ⟨a2, a3, e⟩ := hr
    subst e
    exact lift_of (tail_true _ _ _ _) rfl
end DL
open PySem PySem.W PyProof.Rows
set_option maxHeartbeats 0 in
theorem PySem.Challenge.cw_puttingback_k33_whole_changes_that_can_b_holds : PySem.Challenge.rw_puttingback_k33_whole_changes_that_can_b.Holds := by
  w_on; o_law; k_head; (case hw => w_witness2)
  k_fill
  refine L2.walk_of (l := PySem.Challenge.rw_puttingback_k33_whole_changes_that_can_b) (n := 63) (k := 8) (x := "_law_script") (CX := fun _ => L2.CX0) (sp := fun w => DL.spLaw _) rfl (by decide) rfl ⟨rfl, by decide, by decide⟩ (fun w h Y => PySem.W.kIn_of Y) ?F (fun _ _ a ns hl _ hS => ⟨a, ns, rfl, Nat.le_trans hl (by decide), hS, fun _ => rfl⟩) (fun _ _ _ _ _ h => h)
  case F =>
    intro w mg fa h KX G hmg
    refine' DL.all_mk DL.law_says KX G hmg ?a1 ?l1 ?c1 ?k1 ?a2 ?l2 ?c2 ?k2 ?a3 ?l3 ?c3 ?k3 ?a4 ?l4 ?c4 ?k4 ?a5 ?l5 ?c5 ?k5 ?a6 ?l6 ?c6 ?k6 ?a7 ?l7 ?c7 ?k7 ?a8 ?l8 ?c8 ?k8 ?a9 ?l9 ?c9 ?k9 ?a10 ?l10 ?c10 ?k10 ?a11 ?l11 ?c11 ?k11 ?a12 ?l12 ?c12 ?k12 ?a13 ?l13 ?c13 ?k13 ?a14 ?l14 ?c14 ?k14 ?a15 ?l15 ?c15 ?k15 ?a16 ?l16 ?c16 ?k16 ?a17 ?l17 ?c17 ?k17 ?a18 ?l18 ?c18 ?k18 ?a19 ?l19 ?c19 ?k19 ?a20 ?l20 ?c20 ?k20 ?a21 ?l21 ?c21 ?k21 ?a22 ?l22 ?c22 ?k22 ?a23 ?l23 ?c23 ?k23 ?a24 ?l24 ?c24 ?k24 ?a25 ?l25 ?c25 ?k25 ?a26 ?l26 ?c26 ?k26 ?a27 ?l27 ?c27 ?k27 ?a28 ?l28 ?c28 ?k28 ?a29 ?l29 ?c29 ?k29 ?a30 ?l30 ?c30 ?k30 ?a31 ?l31 ?c31 ?k31 ?a32 ?l32 ?c32 ?k32 ?a33 ?l33 ?c33 ?k33 ?a34 ?l34 ?c34 ?k34 ?a35 ?l35 ?c35 ?k35 ?a36 ?l36 ?c36 ?k36 ?a37 ?l37 ?c37 ?k37 ?a38 ?l38 ?c38 ?k38 ?a39 ?l39 ?c39 ?k39 ?a40 ?l40 ?c40 ?k40 ?y1 ?y2 ?y3 ?y4 ?y5 ?y6 ?z1 ?z2 ?z3 ?z4 ?z5 ?z6 ?z7 ?z8 ?z9 ?z10 ?z11 ?z12 ?z13 ?z14 ?z15
    (case a1 => k_is)
    (case l1 => k_is)
    (case c1 => k_is)
    (case k1 => k_is)
    (case a2 => k_is)
    (case l2 => k_is)
    (case c2 => k_is)
    (case k2 => k_is)
    (case a3 => k_is)
    (case l3 => k_is)
    (case c3 => k_is)
    (case k3 => k_is)
    (case a4 => k_is)
    (case l4 => k_is)
    (case c4 => k_is)
    (case k4 => k_is)
    (case a5 => k_is)
    (case l5 => k_is)
    (case c5 => k_is)
    (case k5 => k_is)
    (case a6 => k_is)
    (case l6 => k_is)
    (case c6 => k_is)
    (case k6 => k_is)
    (case a7 => k_is)
    (case l7 => k_is)
    (case c7 => k_is)
    (case k7 => k_is)
    (case a8 => k_is)
    (case l8 => k_is)
    (case c8 => k_is)
    (case k8 => k_is)
    (case a9 => k_is)
    (case l9 => k_is)
    (case c9 => k_is)
    (case k9 => k_is)
    (case a10 => k_is)
    (case l10 => k_is)
    (case c10 => k_is)
    (case k10 => k_is)
    (case a11 => k_is)
    (case l11 => k_is)
    (case c11 => k_is)
    (case k11 => k_is)
    (case a12 => k_is)
    (case l12 => k_is)
    (case c12 => k_is)
    (case k12 => k_is)
    (case a13 => k_is)
    (case l13 => k_is)
    (case c13 => k_is)
    (case k13 => k_is)
    (case a14 => k_is)
    (case l14 => k_is)
    (case c14 => k_is)
    (case k14 => k_is)
    (case a15 => k_is)
    (case l15 => k_is)
    (case c15 => k_is)
    (case k15 => k_is)
    (case a16 => k_is)
    (case l16 => k_is)
    (case c16 => k_is)
    (case k16 => k_is)
    (case a17 => k_is)
    (case l17 => k_is)
    (case c17 => k_is)
    (case k17 => k_is)
    (case a18 => k_is)
    (case l18 => k_is)
    (case c18 => k_is)
    (case k18 => k_is)
    (case a19 => k_is)
    (case l19 => k_is)
    (case c19 => k_is)
    (case k19 => k_is)
    (case a20 => k_is)
    (case l20 => k_is)
    (case c20 => k_is)
    (case k20 => k_is)
    (case a21 => k_is)
    (case l21 => k_is)
    (case c21 => k_is)
    (case k21 => k_is)
    (case a22 => k_is)
    (case l22 => k_is)
    (case c22 => k_is)
    (case k22 => k_is)
    (case a23 => k_is)
    (case l23 => k_is)
    (case c23 => k_is)
    (case k23 => k_is)
    (case a24 => k_is)
    (case l24 => k_is)
    (case c24 => k_is)
    (case k24 => k_is)
    (case a25 => k_is)
    (case l25 => k_is)
    (case c25 => k_is)
    (case k25 => k_is)
    (case a26 => k_is)
    (case l26 => k_is)
    (case c26 => k_is)
    (case k26 => k_is)
    (case a27 => k_is)
    (case l27 => k_is)
    (case c27 => k_is)
    (case k27 => k_is)
    (case a28 => k_is)
    (case l28 => k_is)
    (case c28 => k_is)
    (case k28 => k_is)
    (case a29 => k_is)
    (case l29 => k_is)
    (case c29 => k_is)
    (case k29 => k_is)
    (case a30 => k_is)
    (case l30 => k_is)
    (case c30 => k_is)
    (case k30 => k_is)
    (case a31 => k_is)
    (case l31 => k_is)
    (case c31 => k_is)
    (case k31 => k_is)
    (case a32 => k_is)
    (case l32 => k_is)
    (case c32 => k_is)
    (case k32 => k_is)
    (case a33 => k_is)
    (case l33 => k_is)
    (case c33 => k_is)
    (case k33 => k_is)
    (case a34 => k_is)
    (case l34 => k_is)
    (case c34 => k_is)
    (case k34 => k_is)
    (case a35 => k_is)
    (case l35 => k_is)
    (case c35 => k_is)
    (case k35 => k_is)
    (case a36 => k_is)
    (case l36 => k_is)
    (case c36 => k_is)
    (case k36 => k_is)
    (case a37 => k_is)
    (case l37 => k_is)
    (case c37 => k_is)
    (case k37 => k_is)
    (case a38 => k_is)
    (case l38 => k_is)
    (case c38 => k_is)
    (case k38 => k_is)
    (case a39 => k_is)
    (case l39 => k_is)
    (case c39 => k_is)
    (case k39 => k_is)
    (case a40 => k_is)
    (case l40 => k_is)
    (case c40 => k_is)
    (case k40 => k_is)
    (case y1 => k_is)
    (case y2 => k_is)
    (case y3 => k_is)
    (case y4 => k_is)
    (case y5 => k_is)
    (case y6 => k_is)
    (case z1 => k_is)
    (case z2 => k_is)
    (case z3 => k_is)
    (case z4 => k_is)
    (case z5 => k_is)
    (case z6 => k_is)
    (case z7 => k_is)
    (case z8 => k_is)
    (case z9 => k_is)
    (case z10 => k_is)
    (case z11 => k_is)
    (case z12 => k_is)
    (case z13 => k_is)
    (case z14 => k_is)
    (case z15 => k_is)
