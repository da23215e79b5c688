import PyProof.Rows.All
import Wide.All
import OpenK.AllK
import Wide.FinOn
import HandS.ForMost
import HandS.Walk
import HandS.Evl
import HandS.TupAny
import HandS.TupLe
import HandS.Deep
import HandS.IsInst
import HandS.Wide
import HandS.Style
import HandS.ForExc
import HandS.ExcInit
import HandS.ExcField
import HandS.CallLocal
import KE.KExcIs
import PyProof.StrReplace2
import HandS.Replace
import HandS.ReplaceDef
import HandS.NamedTupSort
import PySem.Challenge.RW_treesasked_k85_notes_of_places
set_option Elab.async false
set_option linter.all false
set_option maxRecDepth 100000
set_option maxHeartbeats 4000000
/-! DD1: data as trees (D), what represents them in the abstract heap (Rp), a frame's slots as data (Cfg),
and what a reading gives in terms of data (EvD, EvB, EvL, ExS). -/
namespace DD
open PySem L2 Evl

inductive D where
  | val (v : V)
  | lst (xs : List D)
  | tup (xs : List D)

mutual
inductive Rp (K : PySem.W.Frag) (G : Hp) : V → D → Prop
  | val (v : V) : Rp K G v (.val v)
  | lst {a : Addr} {vs : List V} {ds : List D} : SqL K G a vs → Rps K G vs ds → Rp K G (.ref a) (.lst ds)
  | tup {a : Addr} {vs : List V} {ds : List D} : SqT K G a vs → Rps K G vs ds → Rp K G (.ref a) (.tup ds)
inductive Rps (K : PySem.W.Frag) (G : Hp) : List V → List D → Prop
  | nil : Rps K G [] []
  | cons {v : V} {d : D} {vs : List V} {ds : List D} : Rp K G v d → Rps K G vs ds → Rps K G (v :: vs) (d :: ds)
end

section
variable {K : PySem.W.Frag} {G G' H H' H0 : Hp}
mutual
theorem Rp.mono (e : Ex G G') : ∀ {v : V} {d : D}, Rp K G v d → Rp K G' v d
  | _, _, .val v => .val v
  | _, _, .lst h r => .lst (ex_l e h) (Rps.mono e r)
  | _, _, .tup h r => .tup (ex_t e h) (Rps.mono e r)
theorem Rps.mono (e : Ex G G') : ∀ {vs : List V} {ds : List D}, Rps K G vs ds → Rps K G' vs ds
  | _, _, .nil => .nil
  | _, _, .cons h r => .cons (Rp.mono e h) (Rps.mono e r)
end
theorem Rps.length : ∀ {vs : List V} {ds : List D}, Rps K G vs ds → vs.length = ds.length
  | _, _, .nil => rfl
  | _, _, .cons _ r => by rw [List.length_cons, List.length_cons, Rps.length r]
theorem Rps.get : ∀ {vs : List V} {ds : List D} {i : Nat} {d : D}, Rps K G vs ds → ds[i]? = some d → ∃ v, vs[i]? = some v ∧ Rp K G v d
  | _, _, _, _, .nil, h => by simp at h
  | _, _, 0, _, .cons h _, e => by
    simp only [List.getElem?_cons_zero, Option.some.injEq] at e
    subst e
    exact ⟨_, rfl, h⟩
  | _, _, i + 1, _, .cons _ r, e => by
    simp only [List.getElem?_cons_succ] at e
    obtain ⟨v, h1, h2⟩ := Rps.get r e
    exact ⟨v, by simpa using h1, h2⟩
theorem Rps.getV : ∀ {vs : List V} {ds : List D} {i : Nat} {v : V}, Rps K G vs ds → vs[i]? = some v → ∃ d, ds[i]? = some d ∧ Rp K G v d
  | _, _, _, _, .nil, h => by simp at h
  | _, _, 0, _, .cons h _, e => by
    simp only [List.getElem?_cons_zero, Option.some.injEq] at e
    subst e
    exact ⟨_, rfl, h⟩
  | _, _, i + 1, _, .cons _ r, e => by
    simp only [List.getElem?_cons_succ] at e
    obtain ⟨v, h1, h2⟩ := Rps.getV r e
    exact ⟨v, by simpa using h1, h2⟩
theorem Rps.append : ∀ {vs ws : List V} {ds es : List D}, Rps K G vs ds → Rps K G ws es → Rps K G (vs ++ ws) (ds ++ es)
  | _, _, _, _, .nil, s => s
  | _, _, _, _, .cons h r, s => .cons h (Rps.append r s)
theorem Rps.take : ∀ {vs : List V} {ds : List D} (n : Nat), Rps K G vs ds → Rps K G (vs.take n) (ds.take n)
  | _, _, 0, _ => .nil
  | _, _, _ + 1, .nil => .nil
  | _, _, n + 1, .cons h r => .cons h (Rps.take n r)
theorem Rps.drop : ∀ {vs : List V} {ds : List D} (n : Nat), Rps K G vs ds → Rps K G (vs.drop n) (ds.drop n)
  | _, _, 0, r => r
  | _, _, _ + 1, .nil => .nil
  | _, _, n + 1, .cons _ r => Rps.drop n r
theorem Rps.reverse : ∀ {vs : List V} {ds : List D}, Rps K G vs ds → Rps K G vs.reverse ds.reverse
  | _, _, .nil => .nil
  | _, _, .cons h r => by
    rw [List.reverse_cons, List.reverse_cons]
    exact (Rps.reverse r).append (.cons h .nil)
theorem Rps.vals : ∀ {f : V → V} {vs : List V}, Rps K G vs (vs.map .val)
  | _, [] => .nil
  | f, v :: vs => .cons (.val v) (Rps.vals (f := f) (vs := vs))
theorem Rps.of_vals : ∀ {vs ws : List V}, Rps K G vs (ws.map .val) → vs = ws
  | [], [], _ => rfl
  | [], _ :: _, h => by cases h
  | _ :: _, [], h => by cases h
  | v :: vs, w :: ws, h => by
    cases h with
    | cons a b =>
      cases a
      rw [Rps.of_vals b]

/-! ### the pure part G of the heap H, and how both go on -/
/-- the pure part grew by new things alone, the heap grew; what was there and not pure is not pure now -/
structure Wd (G H G' H' : Hp) : Prop where
  g : Ex G G'
  h : Ex H H'
  s : Ex G' H'
  c : ∀ a, H a ≠ none → G a = none → G' a = none
theorem Wd.refl (e : Ex G H) : Wd G H G H := ⟨Ex.refl G, Ex.refl H, e, fun _ _ h => h⟩
theorem Wd.trans {G1 H1 G2 H2 : Hp} (a : Wd G H G1 H1) (b : Wd G1 H1 G2 H2) : Wd G H G2 H2 :=
  ⟨a.g.trans b.g, a.h.trans b.h, b.s, fun x hx gx => b.c x (fun z => hx (by
    cases q : H x with
    | none => rfl
    | some o => rw [a.h x o q] at z; cases z)) (a.c x hx gx)⟩
/-- a new pure object -/
theorem Wd.new {p : Addr} {o : HO} (e : Ex G H) (h : H p = none) : Wd G H (upd G p o) (upd H p o) := by
  have g : G p = none := fresh_back e h
  refine ⟨Ex.new g, Ex.new h, fun a u q => ?_, fun a ha ga => ?_⟩
  · by_cases z : a = p
    · subst z
      rw [upd_same] at q ⊢
      exact q
    · rw [upd_ne z] at q ⊢
      exact e a u q
  · by_cases z : a = p
    · subst z
      exact absurd h ha
    · rw [upd_ne z]
      exact ga
/-- a new object that is not pure -/
theorem Wd.newH {p : Addr} {o : HO} (e : Ex G H) (h : H p = none) : Wd G H G (upd H p o) := by
  have g : G p = none := fresh_back e h
  refine ⟨Ex.refl G, Ex.new h, fun a u q => ?_, fun a ha ga => ga⟩
  have z : a ≠ p := fun z => by rw [z, g] at q; cases q
  rw [upd_ne z]
  exact e a u q

/-! ### slots as data -/
/-- of a slot: nothing is known; it holds a value that represents d; it holds a list of the def's own, not pure, whose items represent ds -/
inductive DE where
  | un
  | pu (d : D)
  | ow (ds : List D)
abbrev DEnv := List DE

def Own (K : PySem.W.Frag) (H0 G H : Hp) (a : Addr) (ds : List D) : Prop := ∃ vs, H a = some (.lst vs) ∧ G a = none ∧ H0 a = none ∧ Rps K G vs ds
def Slot (K : PySem.W.Frag) (H0 G H : Hp) (o : Option (Option V)) : DE → Prop
  | .un => True
  | .pu d => ∃ v, o = some (some v) ∧ Rp K G v d
  | .ow ds => ∃ a, o = some (some (.ref a)) ∧ Own K H0 G H a ds
def isOw : DE → Bool
  | .ow _ => true
  | _ => false
structure Cfg (K : PySem.W.Frag) (G0 H0 G H : Hp) (σ : L2.St) (ρ : DEnv) : Prop where
  wd : Ex G0 G ∧ Ex H0 H ∧ Ex G H ∧ ∀ a, H0 a ≠ none → G0 a = none → G a = none
  len : ρ.length = σ.length
  slot : ∀ (i : Nat) (e : DE), ρ[i]? = some e → Slot K H0 G H (σ[i]?) e
  dis : ∀ (i j : Nat) (ei ej : DE) (a : Addr), i ≠ j → ρ[i]? = some ei → ρ[j]? = some ej → isOw ei = true → isOw ej = true → σ[i]? = some (some (.ref a)) → σ[j]? ≠ some (some (.ref a))
theorem Cfg.wd0 {G0 : Hp} {σ : L2.St} {ρ : DEnv} (c : Cfg K G0 H0 G H σ ρ) : Wd G0 H0 G H := ⟨c.wd.1, c.wd.2.1, c.wd.2.2.1, c.wd.2.2.2⟩
theorem Cfg.sub {G0 : Hp} {σ : L2.St} {ρ : DEnv} (c : Cfg K G0 H0 G H σ ρ) : Ex G H := c.wd.2.2.1
theorem Slot.mono {o : Option (Option V)} {e : DE} (w : Wd G H G' H') (h : Slot K H0 G H o e) : Slot K H0 G' H' o e := by
  cases e with
  | un => trivial
  | pu d =>
    obtain ⟨v, h1, h2⟩ := h
    exact ⟨v, h1, h2.mono w.g⟩
  | ow ds =>
    obtain ⟨a, h1, vs, h2, h3, h4, h5⟩ := h
    exact ⟨a, h1, vs, w.h a _ h2, w.c a (by rw [h2]; exact Option.some_ne_none _) h3, h4, h5.mono w.g⟩
theorem Cfg.mono {G0 : Hp} {σ : L2.St} {ρ : DEnv} (w : Wd G H G' H') (c : Cfg K G0 H0 G H σ ρ) : Cfg K G0 H0 G' H' σ ρ := by
  have z := c.wd0.trans w
  exact ⟨⟨z.g, z.h, z.s, z.c⟩, c.len, fun i e h => (c.slot i e h).mono w, c.dis⟩
theorem getElem?_set_some {α : Type} {l : List α} {i j : Nat} {x e : α} (h : (l.set i x)[j]? = some e) : (j = i ∧ e = x ∧ i < l.length) ∨ (j ≠ i ∧ l[j]? = some e) := by
  by_cases z : j = i
  · subst z
    rw [List.getElem?_set] at h
    rw [if_pos rfl] at h
    by_cases hl : j < l.length
    · rw [if_pos hl] at h
      exact .inl ⟨rfl, (Option.some.inj h).symm, hl⟩
    · rw [if_neg hl] at h
      cases h
  · rw [List.getElem?_set_ne (Ne.symm z)] at h
    exact .inr ⟨z, h⟩
/-- a slot is stored: it holds what represents d, or is forgotten -/
theorem Cfg.set {G0 : Hp} {σ : L2.St} {ρ : DEnv} {i : Nat} {v : V} {d : D} (c : Cfg K G0 H0 G H σ ρ) (h : Rp K G v d) : Cfg K G0 H0 G H (σ.set i (some v)) (ρ.set i (.pu d)) := by
  refine ⟨c.wd, by rw [List.length_set, List.length_set]; exact c.len, fun j e q => ?_, fun j k ej ek a hjk qj qk oj ok => ?_⟩
  · rcases getElem?_set_some q with ⟨rfl, rfl, hl⟩ | ⟨hj, q⟩
    · exact ⟨v, by rw [List.getElem?_set_self (by rw [← c.len]; exact hl)], h⟩
    · rw [List.getElem?_set_ne (Ne.symm hj)]
      exact c.slot j e q
  · rcases getElem?_set_some qj with ⟨rfl, rfl, hl⟩ | ⟨hj, qj⟩
    · cases oj
    · rcases getElem?_set_some qk with ⟨rfl, rfl, hl⟩ | ⟨hk, qk⟩
      · cases ok
      · rw [List.getElem?_set_ne (Ne.symm hj), List.getElem?_set_ne (Ne.symm hk)]
        exact c.dis j k ej ek a hjk qj qk oj ok
/-- any store, the slot forgotten -/
theorem Cfg.setU {G0 : Hp} {σ : L2.St} {ρ : DEnv} {i : Nat} {o : Option V} (c : Cfg K G0 H0 G H σ ρ) : Cfg K G0 H0 G H (σ.set i o) (ρ.set i .un) := by
  refine ⟨c.wd, by rw [List.length_set, List.length_set]; exact c.len, fun j e q => ?_, fun j k ej ek a hjk qj qk oj ok => ?_⟩
  · rcases getElem?_set_some q with ⟨rfl, rfl, hl⟩ | ⟨hj, q⟩
    · trivial
    · rw [List.getElem?_set_ne (Ne.symm hj)]
      exact c.slot j e q
  · rcases getElem?_set_some qj with ⟨rfl, rfl, hl⟩ | ⟨hj, qj⟩
    · cases oj
    · rcases getElem?_set_some qk with ⟨rfl, rfl, hl⟩ | ⟨hk, qk⟩
      · cases ok
      · rw [List.getElem?_set_ne (Ne.symm hj), List.getElem?_set_ne (Ne.symm hk)]
        exact c.dis j k ej ek a hjk qj qk oj ok
/-- a new list of the def's own -/
theorem Cfg.setOw {G0 : Hp} {σ : L2.St} {ρ : DEnv} {i : Nat} {p : Addr} {vs : List V} {ds : List D} (c : Cfg K G0 H0 G H σ ρ) (h : H p = none) (r : Rps K G vs ds) :
    Cfg K G0 H0 G (upd H p (.lst vs)) (σ.set i (some (.ref p))) (ρ.set i (.ow ds)) := by
  have c1 := c.mono (Wd.newH (o := .lst vs) c.sub h)
  refine ⟨c1.wd, by rw [List.length_set, List.length_set]; exact c.len, fun j e q => ?_, fun j k ej ek a hjk qj qk oj ok => ?_⟩
  · rcases getElem?_set_some q with ⟨rfl, rfl, hl⟩ | ⟨hj, q⟩
    · exact ⟨p, by rw [List.getElem?_set_self (by rw [← c.len]; exact hl)], vs, upd_same, fresh_back c.sub h, fresh_back c.wd.2.1 h, r⟩
    · rw [List.getElem?_set_ne (Ne.symm hj)]
      exact c1.slot j e q
  · have other : ∀ (j : Nat) (e : DE), ρ[j]? = some e → isOw e = true → σ[j]? ≠ some (some (.ref p)) := fun j e q oe z => by
      have s := c.slot j e q
      cases e with
      | un => cases oe
      | pu d => cases oe
      | ow es =>
        obtain ⟨b, h1, ws, h2, _⟩ := s
        rw [z] at h1
        cases h1
        rw [h] at h2
        cases h2
    rcases getElem?_set_some qj with ⟨rfl, rfl, hl⟩ | ⟨hj, qj⟩
    · rcases getElem?_set_some qk with ⟨rfl, _, _⟩ | ⟨hk, qk⟩
      · exact absurd rfl hjk
      · rw [List.getElem?_set_self (by rw [← c.len]; exact hl), List.getElem?_set_ne (Ne.symm hk)]
        intro e
        cases e
        exact other k ek qk ok
    · have qj1 := qj
      rcases getElem?_set_some qk with ⟨rfl, rfl, hl⟩ | ⟨hk, qk⟩
      · rw [List.getElem?_set_ne (Ne.symm hj), List.getElem?_set_self (by rw [← c.len]; exact hl)]
        intro e z
        cases z
        exact other j ej qj1 oj e
      · rw [List.getElem?_set_ne (Ne.symm hj), List.getElem?_set_ne (Ne.symm hk)]
        exact c.dis j k ej ek a hjk qj qk oj ok
/-- the def's own list changes -/
theorem Cfg.mut {G0 : Hp} {σ : L2.St} {ρ : DEnv} {i : Nat} {p : Addr} {vs : List V} {ds ds0 : List D} (c : Cfg K G0 H0 G H σ ρ) (hi : ρ[i]? = some (.ow ds0)) (hp : σ[i]? = some (some (.ref p))) (r : Rps K G vs ds) :
    Cfg K G0 H0 G (upd H p (.lst vs)) σ (ρ.set i (.ow ds)) := by
  obtain ⟨a, e1, ws, e2, e3, e4, e5⟩ := c.slot i _ hi
  rw [hp] at e1
  cases e1
  refine ⟨⟨c.wd.1, Ex.mut c.wd.2.1 e4, Ex.mut c.sub e3, c.wd.2.2.2⟩, by rw [List.length_set]; exact c.len, fun j e q => ?_, fun j k ej ek a hjk qj qk oj ok => ?_⟩
  · rcases getElem?_set_some q with ⟨rfl, rfl, hl⟩ | ⟨hj, q⟩
    · exact ⟨p, hp, vs, upd_same, e3, e4, r⟩
    · have s := c.slot j e q
      cases e with
      | un => trivial
      | pu d => exact s
      | ow es =>
        obtain ⟨b, h1, ws', h2, h3⟩ := s
        have nb : b ≠ p := fun z => by
          subst z
          exact c.dis i j _ _ b (Ne.symm hj) hi q rfl rfl hp h1
        exact ⟨b, h1, ws', by rw [upd_ne nb]; exact h2, h3⟩
  · have back : ∀ {j : Nat} {e : DE}, (ρ.set i (.ow ds))[j]? = some e → isOw e = true → ∃ e', ρ[j]? = some e' ∧ isOw e' = true := fun {j e} q oe => by
      rcases getElem?_set_some q with ⟨rfl, rfl, hl⟩ | ⟨hj, q⟩
      · exact ⟨_, hi, rfl⟩
      · exact ⟨_, q, oe⟩
    obtain ⟨ej', qj', oj'⟩ := back qj oj
    obtain ⟨ek', qk', ok'⟩ := back qk ok
    exact c.dis j k ej' ek' a hjk qj' qk' oj' ok'
/-- the def's own list becomes pure -/
theorem Cfg.frz {G0 : Hp} {σ : L2.St} {ρ : DEnv} {i : Nat} {ds : List D} (c : Cfg K G0 H0 G H σ ρ) (hi : ρ[i]? = some (.ow ds)) : ∃ G', Ex G G' ∧ Cfg K G0 H0 G' H σ (ρ.set i (.pu (.lst ds))) := by
  obtain ⟨p, hp, ws, e2, e3, e4, e5⟩ := c.slot i _ hi
  refine ⟨upd G p (.lst ws), Ex.new e3, ?_⟩
  have gG : Ex (upd G p (.lst ws)) H := fun a u q => by
    by_cases z : a = p
    · subst z
      rw [upd_same] at q
      rw [← q]
      exact e2
    · rw [upd_ne z] at q
      exact c.sub a u q
  refine ⟨⟨c.wd.1.trans (Ex.new e3), c.wd.2.1, gG, fun a ha ga => ?_⟩, by rw [List.length_set]; exact c.len, fun j e q => ?_, fun j k ej ek a hjk qj qk oj ok => ?_⟩
  · have z : a ≠ p := fun z => ha (by rw [z]; exact e4)
    rw [upd_ne z]
    exact c.wd.2.2.2 a ha ga
  · rcases getElem?_set_some q with ⟨rfl, rfl, hl⟩ | ⟨hj, q⟩
    · exact ⟨.ref p, hp, .lst (.inl (.inl upd_same)) (e5.mono (Ex.new e3))⟩
    · have s := c.slot j e q
      cases e with
      | un => trivial
      | pu d =>
        obtain ⟨v, h1, h2⟩ := s
        exact ⟨v, h1, h2.mono (Ex.new e3)⟩
      | ow es =>
        obtain ⟨b, h1, ws', h2, h3, h4, h5⟩ := s
        have nb : b ≠ p := fun z => by
          subst z
          exact c.dis i j _ _ b (Ne.symm hj) hi q rfl rfl hp h1
        exact ⟨b, h1, ws', h2, by rw [upd_ne nb]; exact h3, h4, h5.mono (Ex.new e3)⟩
  · rcases getElem?_set_some qj with ⟨rfl, rfl, hl⟩ | ⟨hj, qj⟩
    · cases oj
    · rcases getElem?_set_some qk with ⟨rfl, rfl, hl⟩ | ⟨hk, qk⟩
      · cases ok
      · exact c.dis j k ej ek a hjk qj qk oj ok
end
end DD

set_option Elab.async false
set_option linter.all false
set_option maxRecDepth 100000
set_option maxHeartbeats 4000000
/-! DD2: the judgements over data, and the rules that hold of the readings. -/
namespace DD
open PySem L2 Evl

section
variable (K : PySem.W.Frag)
def EvD (te : TE) (ρ : DEnv) (d : D) : Prop := ∀ G0 H0 G H σ, Cfg K G0 H0 G H σ ρ → ∀ Q : VK, (∀ v G' H', Wd G H G' H' → Rp K G' v d → Q v H') → te σ H Q
def EvB (tt : TT) (ρ : DEnv) (b : Bool) : Prop := ∀ G0 H0 G H σ, Cfg K G0 H0 G H σ ρ → ∀ Q : Bool → Hp → Prop, (∀ G' H', Wd G H G' H' → Q b H') → tt σ H Q
def EvA (ta : TA) (ρ : DEnv) (ds : List D) : Prop := ∀ G0 H0 G H σ, Cfg K G0 H0 G H σ ρ → ∀ Q : List V → Hp → Prop, (∀ vs G' H', Wd G H G' H' → Rps K G' vs ds → Q vs H') → ta σ H Q
def EvO (to : TO) (ρ : DEnv) (o : Option Int) : Prop := ∀ G0 H0 G H σ, Cfg K G0 H0 G H σ ρ → ∀ Q : Option Int → Hp → Prop, (∀ G' H', Wd G H G' H' → Q o H') → to σ H Q
/-- a new list -/
def EvF (te : TE) (ρ : DEnv) (ds : List D) : Prop := ∀ G0 H0 G H σ, Cfg K G0 H0 G H σ ρ → ∀ Q : VK,
  (∀ p vs G' H', Wd G H G' H' → H p = none → G' p = none → H' p = some (.lst vs) → Rps K G' vs ds → Q (.ref p) H') → te σ H Q

abbrev ME := DEnv → Option D
abbrev MT := DEnv → Option Bool
abbrev MA := DEnv → Option (List D)
abbrev MO := DEnv → Option (Option Int)
def EM (te : TE) (m : ME) : Prop := ∀ ρ d, m ρ = some d → EvD K te ρ d
def TM (tt : TT) (m : MT) : Prop := ∀ ρ b, m ρ = some b → EvB K tt ρ b
def AM (ta : TA) (m : MA) : Prop := ∀ ρ ds, m ρ = some ds → EvA K ta ρ ds
def OM (to : TO) (m : MO) : Prop := ∀ ρ o, m ρ = some o → EvO K to ρ o
def FM (te : TE) (m : MA) : Prop := ∀ ρ ds, m ρ = some ds → EvF K te ρ ds

/-- an operation on values, a call on values, a method, a slice -/
def R2M (r : R2) (f : D → D → Option D) : Prop := ∀ x y a b d G H, Ex G H → Rp K G x a → Rp K G y b → f a b = some d → ∀ Q : VK, (∀ v G' H', Wd G H G' H' → Rp K G' v d → Q v H') → r x y H Q
def R1M (r : V → Hp → VK → Prop) (f : D → Option D) : Prop := ∀ x a d G H, Ex G H → Rp K G x a → f a = some d → ∀ Q : VK, (∀ v G' H', Wd G H G' H' → Rp K G' v d → Q v H') → r x H Q
def RCM (r : List V → Hp → VK → Prop) (f : List D → Option D) : Prop := ∀ xs as d G H, Ex G H → Rps K G xs as → f as = some d → ∀ Q : VK, (∀ v G' H', Wd G H G' H' → Rp K G' v d → Q v H') → r xs H Q
def RMM (T : String) (r : V → List V → Hp → VK → Prop) (f : D → List D → Option D) : Prop := ∀ x xs a as d, f a as = some d →
  (∀ G H, Ex G H → Rp K G x a → tyV K T x H) ∧ ∀ G H, Ex G H → Rp K G x a → Rps K G xs as → ∀ Q : VK, (∀ v G' H', Wd G H G' H' → Rp K G' v d → Q v H') → r x xs H Q
def RSM (r : V → Option Int → Option Int → Hp → VK → Prop) (f : D → Option Int → Option Int → Option D) : Prop := ∀ x a lo hi d G H, Ex G H → Rp K G x a → f a lo hi = some d → ∀ Q : VK, (∀ v G' H', Wd G H G' H' → Rp K G' v d → Q v H') → r x lo hi H Q
end

section
variable {K : PySem.W.Frag} {ta tb te : TE} {tt tu : TT} {tl : TA} {to th : TO} {ma mb me : ME} {mt mu : MT} {ml : MA} {mo mh : MO}
def mVar (i : Nat) : ME := fun ρ => match ρ[i]? with
  | some (.pu d) => some d
  | _ => none
def mC (v : V) : ME := fun _ => some (.val v)
def mK (d : D) : ME := fun _ => some d
theorem em_var {i : Nat} : EM K (tVar i) (mVar i) := fun ρ d h G0 H0 G H σ c Q q => by
  unfold mVar at h
  split at h
  · rename_i d' e
    cases h
    obtain ⟨v, h1, h2⟩ := c.slot i _ e
    exact ⟨v, h1, q v G H (Wd.refl c.sub) h2⟩
  · cases h
theorem em_c {v : V} : EM K (tC v) (mC v) := fun ρ d h G0 H0 G H σ c Q q => by
  cases h
  exact q v G H (Wd.refl c.sub) (.val v)
/-- a value of the module that represents d in every heap -/
theorem em_k {v : V} {d : D} (h : ∀ G, Rp K G v d) : EM K (tC v) (mK d) := fun ρ d' e G0 H0 G H σ c Q q => by
  cases e
  exact q v G H (Wd.refl c.sub) (h G)
def mOp (f : D → D → Option D) (ma mb : ME) : ME := fun ρ => (ma ρ).bind fun a => (mb ρ).bind fun b => f a b
theorem em_op {r : R2} {f : D → D → Option D} (hr : R2M K r f) (ha : EM K ta ma) (hb : EM K tb mb) : EM K (tOp r ta tb) (mOp f ma mb) := fun ρ d h G0 H0 G H σ c Q q => by
  obtain ⟨a, e1, h⟩ := Option.bind_eq_some_iff.mp h
  obtain ⟨b, e2, h⟩ := Option.bind_eq_some_iff.mp h
  refine ha ρ a e1 G0 H0 G H σ c _ fun x G1 H1 w1 r1 => ?_
  refine hb ρ b e2 G0 H0 G1 H1 σ (c.mono w1) _ fun y G2 H2 w2 r2 => ?_
  exact hr x y a b d G2 H2 w2.s (r1.mono w2.g) r2 h Q fun v G3 H3 w3 r3 => q v G3 H3 ((w1.trans w2).trans w3) r3
def mUn (f : D → Option D) (ma : ME) : ME := fun ρ => (ma ρ).bind f
theorem em_un {r : V → Hp → VK → Prop} {f : D → Option D} (hr : R1M K r f) (ha : EM K ta ma) : EM K (tUn r ta) (mUn f ma) := fun ρ d h G0 H0 G H σ c Q q => by
  obtain ⟨a, e1, h⟩ := Option.bind_eq_some_iff.mp h
  refine ha ρ a e1 G0 H0 G H σ c _ fun x G1 H1 w1 r1 => ?_
  exact hr x a d G1 H1 w1.s r1 h Q fun v G3 H3 w3 r3 => q v G3 H3 (w1.trans w3) r3
/-- tests -/
def asB : D → Option Bool
  | .val (.bl b) => some b
  | _ => none
theorem asB_bl {d : D} {b : Bool} (h : asB d = some b) : d = .val (.bl b) := by
  unfold asB at h
  split at h
  · cases h; rfl
  · cases h
def mTest (m : ME) : MT := fun ρ => (m ρ).bind asB
theorem tm_test (h : EM K te me) : TM K (tTest te) (mTest me) := fun ρ b e G0 H0 G H σ c Q q => by
  obtain ⟨d, e1, e⟩ := Option.bind_eq_some_iff.mp e
  cases asB_bl e
  refine h ρ _ e1 G0 H0 G H σ c _ fun v G1 H1 w r => ?_
  cases r
  exact ⟨b, rfl, q G1 H1 w⟩
theorem tm_B (h : EM K te me) : TM K (tB te) (mTest me) := fun ρ b e G0 H0 G H σ c Q q => by
  obtain ⟨d, e1, e⟩ := Option.bind_eq_some_iff.mp e
  cases asB_bl e
  refine h ρ _ e1 G0 H0 G H σ c _ fun v G1 H1 w r => ?_
  cases r
  exact ⟨b, rfl, q G1 H1 w⟩
def mAnd (a b : MT) : MT := fun ρ => (a ρ).bind fun x => if x = true then b ρ else some false
def mOr (a b : MT) : MT := fun ρ => (a ρ).bind fun x => if x = true then some true else b ρ
def mNot (a : MT) : MT := fun ρ => (a ρ).map (!·)
theorem tm_and (h1 : TM K tt mt) (h2 : TM K tu mu) : TM K (tAnd tt tu) (mAnd mt mu) := fun ρ b e G0 H0 G H σ c Q q => by
  obtain ⟨x, e1, e⟩ := Option.bind_eq_some_iff.mp e
  refine h1 ρ x e1 G0 H0 G H σ c _ fun G1 H1 w => ?_
  cases x with
  | true => exact iteT (h2 ρ b e G0 H0 G1 H1 σ (c.mono w) Q fun G2 H2 w2 => q G2 H2 (w.trans w2))
  | false =>
    cases e
    exact iteF (q G1 H1 w)
theorem tm_or (h1 : TM K tt mt) (h2 : TM K tu mu) : TM K (tOr tt tu) (mOr mt mu) := fun ρ b e G0 H0 G H σ c Q q => by
  obtain ⟨x, e1, e⟩ := Option.bind_eq_some_iff.mp e
  refine h1 ρ x e1 G0 H0 G H σ c _ fun G1 H1 w => ?_
  cases x with
  | false => exact iteF (h2 ρ b e G0 H0 G1 H1 σ (c.mono w) Q fun G2 H2 w2 => q G2 H2 (w.trans w2))
  | true =>
    cases e
    exact iteT (q G1 H1 w)
theorem tm_not (h1 : TM K tt mt) : TM K (tNot tt) (mNot mt) := fun ρ b e G0 H0 G H σ c Q q => by
  obtain ⟨x, e1, e⟩ := Option.map_eq_some_iff.mp e
  subst e
  exact h1 ρ x e1 G0 H0 G H σ c _ fun G1 H1 w => q G1 H1 w
/-- and, or, not of bools as values -/
def mAndV (a b : ME) : ME := fun ρ => (mTest a ρ).bind fun x => if x = true then b ρ else some (.val (.bl false))
def mOrV (a b : ME) : ME := fun ρ => (mTest a ρ).bind fun x => if x = true then some (.val (.bl true)) else b ρ
def mNotV (a : ME) : ME := fun ρ => (mTest a ρ).map fun x => .val (.bl (!x))
theorem em_andV (h1 : EM K ta ma) (h2 : EM K tb mb) : EM K (tAndV ta tb) (mAndV ma mb) := fun ρ d e G0 H0 G H σ c Q q => by
  obtain ⟨x, e1, e⟩ := Option.bind_eq_some_iff.mp e
  obtain ⟨d1, e0, e1⟩ := Option.bind_eq_some_iff.mp e1
  cases asB_bl e1
  refine h1 ρ _ e0 G0 H0 G H σ c _ fun v G1 H1 w r => ?_
  cases r
  refine ⟨x, rfl, ?_⟩
  cases x with
  | true => exact iteT (h2 ρ d e G0 H0 G1 H1 σ (c.mono w) Q fun v G2 H2 w2 r2 => q v G2 H2 (w.trans w2) r2)
  | false =>
    cases e
    exact iteF (q _ G1 H1 w (.val _))
theorem em_orV (h1 : EM K ta ma) (h2 : EM K tb mb) : EM K (tOrV ta tb) (mOrV ma mb) := fun ρ d e G0 H0 G H σ c Q q => by
  obtain ⟨x, e1, e⟩ := Option.bind_eq_some_iff.mp e
  obtain ⟨d1, e0, e1⟩ := Option.bind_eq_some_iff.mp e1
  cases asB_bl e1
  refine h1 ρ _ e0 G0 H0 G H σ c _ fun v G1 H1 w r => ?_
  cases r
  refine ⟨x, rfl, ?_⟩
  cases x with
  | false => exact iteF (h2 ρ d e G0 H0 G1 H1 σ (c.mono w) Q fun v G2 H2 w2 r2 => q v G2 H2 (w.trans w2) r2)
  | true =>
    cases e
    exact iteT (q _ G1 H1 w (.val _))
theorem em_notV (h1 : EM K ta ma) : EM K (tNotV ta) (mNotV ma) := fun ρ d e G0 H0 G H σ c Q q => by
  obtain ⟨x, e1, e⟩ := Option.map_eq_some_iff.mp e
  subst e
  obtain ⟨d1, e0, e1⟩ := Option.bind_eq_some_iff.mp e1
  cases asB_bl e1
  refine h1 ρ _ e0 G0 H0 G H σ c _ fun v G1 H1 w r => ?_
  cases r
  exact ⟨x, rfl, q _ G1 H1 w (.val _)⟩
def mIf (t : MT) (a b : ME) : ME := fun ρ => (t ρ).bind fun x => if x = true then a ρ else b ρ
theorem em_if (h : TM K tt mt) (h1 : EM K ta ma) (h2 : EM K tb mb) : EM K (tIf tt ta tb) (mIf mt ma mb) := fun ρ d e G0 H0 G H σ c Q q => by
  obtain ⟨x, e1, e⟩ := Option.bind_eq_some_iff.mp e
  refine h ρ x e1 G0 H0 G H σ c _ fun G1 H1 w => ?_
  cases x with
  | true => exact iteT (h1 ρ d e G0 H0 G1 H1 σ (c.mono w) Q fun v G2 H2 w2 r2 => q v G2 H2 (w.trans w2) r2)
  | false => exact iteF (h2 ρ d e G0 H0 G1 H1 σ (c.mono w) Q fun v G2 H2 w2 r2 => q v G2 H2 (w.trans w2) r2)
/-- a < b < c -/
def mChain (f g : D → D → Option D) (ma mb mc : ME) : ME := fun ρ => (ma ρ).bind fun a => (mb ρ).bind fun b => ((f a b).bind asB).bind fun x => if x = true then (mc ρ).bind fun c => g b c else some (.val (.bl false))
theorem em_chain {r r' : R2} {tc : TE} {mc : ME} {f g : D → D → Option D} (hr : R2M K r f) (hr' : R2M K r' g) (ha : EM K ta ma) (hb : EM K tb mb) (hc : EM K tc mc) : EM K (tChain r r' ta tb tc) (mChain f g ma mb mc) := fun ρ d h G0 H0 G H σ c Q q => by
  obtain ⟨a, e1, h⟩ := Option.bind_eq_some_iff.mp h
  obtain ⟨b, e2, h⟩ := Option.bind_eq_some_iff.mp h
  obtain ⟨x, e3, h⟩ := Option.bind_eq_some_iff.mp h
  obtain ⟨z, e4, e3⟩ := Option.bind_eq_some_iff.mp e3
  cases asB_bl e3
  refine ha ρ a e1 G0 H0 G H σ c _ fun v G1 H1 w1 r1 => ?_
  refine hb ρ b e2 G0 H0 G1 H1 σ (c.mono w1) _ fun u G2 H2 w2 r2 => ?_
  refine hr v u a b _ G2 H2 w2.s (r1.mono w2.g) r2 e4 _ fun k G3 H3 w3 r3 => ?_
  cases r3
  refine ⟨x, rfl, ?_⟩
  have w13 := (w1.trans w2).trans w3
  cases x with
  | true =>
    obtain ⟨cc, e5, h⟩ := Option.bind_eq_some_iff.mp h
    refine iteT (hc ρ cc e5 G0 H0 G3 H3 σ (c.mono w13) _ fun y G4 H4 w4 r4 => ?_)
    exact hr' u y b cc d G4 H4 w4.s (r2.mono (w3.g.trans w4.g)) r4 h Q fun v G5 H5 w5 r5 => q v G5 H5 ((w13.trans w4).trans w5) r5
  | false =>
    cases h
    exact iteF (q _ G3 H3 w13 (.val _))
/-- arguments -/
def mNil : MA := fun _ => some []
def mCons (m : ME) (r : MA) : MA := fun ρ => (m ρ).bind fun d => (r ρ).map (d :: ·)
theorem am_nil : AM K tNil mNil := fun ρ ds h G0 H0 G H σ c Q q => by
  cases h
  exact q [] G H (Wd.refl c.sub) .nil
theorem am_cons (h1 : EM K te me) (h2 : AM K tl ml) : AM K (tCons te tl) (mCons me ml) := fun ρ ds h G0 H0 G H σ c Q q => by
  obtain ⟨d, e1, h⟩ := Option.bind_eq_some_iff.mp h
  obtain ⟨r, e2, h⟩ := Option.map_eq_some_iff.mp h
  subst h
  refine h1 ρ d e1 G0 H0 G H σ c _ fun x G1 H1 w1 r1 => ?_
  exact h2 ρ r e2 G0 H0 G1 H1 σ (c.mono w1) _ fun xs G2 H2 w2 r2 => q _ G2 H2 (w1.trans w2) (.cons (r1.mono w2.g) r2)
def mCall (f : List D → Option D) (m : MA) : ME := fun ρ => (m ρ).bind f
theorem em_cb {r : List V → Hp → VK → Prop} {f : List D → Option D} (hr : RCM K r f) (h : AM K tl ml) : EM K (tCB r tl) (mCall f ml) := fun ρ d e G0 H0 G H σ c Q q => by
  obtain ⟨as, e1, e⟩ := Option.bind_eq_some_iff.mp e
  refine h ρ as e1 G0 H0 G H σ c _ fun vs G1 H1 w1 r1 => ?_
  exact hr vs as d G1 H1 w1.s r1 e Q fun v G2 H2 w2 r2 => q v G2 H2 (w1.trans w2) r2
/-- a method of a built-in type -/
def mMeth (f : D → List D → Option D) (mo : ME) (m : MA) : ME := fun ρ => (mo ρ).bind fun a => (m ρ).bind fun as => f a as
theorem em_bm {T : String} {r : V → List V → Hp → VK → Prop} {f : D → List D → Option D} (hr : RMM K T r f) (ho : EM K ta ma) (h : AM K tl ml) : EM K (tBM K T r ta tl) (mMeth f ma ml) := fun ρ d e G0 H0 G H σ c Q q => by
  obtain ⟨a, e1, e⟩ := Option.bind_eq_some_iff.mp e
  obtain ⟨as, e2, e⟩ := Option.bind_eq_some_iff.mp e
  refine ho ρ a e1 G0 H0 G H σ c _ fun x G1 H1 w1 r1 => ?_
  refine ⟨?_, h ρ as e2 G0 H0 G1 H1 σ (c.mono w1) _ fun xs G2 H2 w2 r2 => ?_⟩
  · exact (hr x [] a as d e).1 G1 H1 w1.s r1
  · exact (hr x xs a as d e).2 G2 H2 w2.s (r1.mono w2.g) r2 Q fun v G3 H3 w3 r3 => q v G3 H3 ((w1.trans w2).trans w3) r3
theorem em_bm0 {T : String} {r : V → List V → Hp → VK → Prop} {f : D → List D → Option D} (hr : RMM K T r f) (ho : EM K ta ma) : EM K (tBM0 K T r ta) (mMeth f ma mNil) := fun ρ d e G0 H0 G H σ c Q q => by
  obtain ⟨a, e1, e⟩ := Option.bind_eq_some_iff.mp e
  obtain ⟨as, e2, e⟩ := Option.bind_eq_some_iff.mp e
  cases e2
  refine ho ρ a e1 G0 H0 G H σ c _ fun x G1 H1 w1 r1 => ?_
  exact ⟨(hr x [] a [] d e).1 G1 H1 w1.s r1, (hr x [] a [] d e).2 G1 H1 w1.s r1 .nil Q fun v G3 H3 w3 r3 => q v G3 H3 (w1.trans w3) r3⟩
/-- slices -/
def asI : D → Option Int
  | .val (.int i) => some i
  | _ => none
theorem asI_int {d : D} {i : Int} (h : asI d = some i) : d = .val (.int i) := by
  unfold asI at h
  split at h
  · cases h; rfl
  · cases h
def mNoPart : MO := fun _ => some none
def mPart (m : ME) : MO := fun ρ => ((m ρ).bind asI).map some
theorem om_none : OM K tNoPart mNoPart := fun ρ o h G0 H0 G H σ c Q q => by
  cases h
  exact q G H (Wd.refl c.sub)
theorem om_some (h : EM K te me) : OM K (tPart te) (mPart me) := fun ρ o e G0 H0 G H σ c Q q => by
  obtain ⟨i, e1, e⟩ := Option.map_eq_some_iff.mp e
  subst e
  obtain ⟨d, e0, e1⟩ := Option.bind_eq_some_iff.mp e1
  cases asI_int e1
  refine h ρ _ e0 G0 H0 G H σ c _ fun v G1 H1 w r => ?_
  cases r
  exact ⟨i, rfl, q G1 H1 w⟩
def mSl (f : D → Option Int → Option Int → Option D) (m : ME) (lo hi : MO) : ME := fun ρ => (m ρ).bind fun a => (lo ρ).bind fun l => (hi ρ).bind fun u => f a l u
theorem em_sl {r : V → Option Int → Option Int → Hp → VK → Prop} {f : D → Option Int → Option Int → Option D} (hr : RSM K r f) (he : EM K te me) (hl : OM K to mo) (hu : OM K th mh) : EM K (tSl r te to th) (mSl f me mo mh) := fun ρ d h G0 H0 G H σ c Q q => by
  obtain ⟨a, e1, h⟩ := Option.bind_eq_some_iff.mp h
  obtain ⟨l, e2, h⟩ := Option.bind_eq_some_iff.mp h
  obtain ⟨u, e3, h⟩ := Option.bind_eq_some_iff.mp h
  refine he ρ a e1 G0 H0 G H σ c _ fun x G1 H1 w1 r1 => ?_
  refine hl ρ l e2 G0 H0 G1 H1 σ (c.mono w1) _ fun G2 H2 w2 => ?_
  refine hu ρ u e3 G0 H0 G2 H2 σ (c.mono (w1.trans w2)) _ fun G3 H3 w3 => ?_
  exact hr x a l u d G3 H3 w3.s (r1.mono (w2.g.trans w3.g)) h Q fun v G4 H4 w4 r4 => q v G4 H4 (((w1.trans w2).trans w3).trans w4) r4
/-- new lists and tuples -/
theorem em_fresh {m : MA} (h : FM K te m) : EM K te (fun ρ => (m ρ).map .lst) := fun ρ d e G0 H0 G H σ c Q q => by
  obtain ⟨ds, e1, e⟩ := Option.map_eq_some_iff.mp e
  subst e
  refine h ρ ds e1 G0 H0 G H σ c Q fun p vs G' H' w hp gp hh r => ?_
  refine q _ (upd G' p (.lst vs)) H' ⟨w.g.trans (Ex.new gp), w.h, fun a u z => ?_, fun a ha ga => ?_⟩ (.lst (.inl (.inl upd_same)) (r.mono (Ex.new gp)))
  · by_cases y : a = p
    · subst y
      rw [upd_same] at z
      rw [← z]
      exact hh
    · rw [upd_ne y] at z
      exact w.s a u z
  · by_cases y : a = p
    · subst y
      exact absurd hp ha
    · rw [upd_ne y]
      exact w.c a ha ga
def few (m : MA) : MA := fun ρ => (m ρ).bind fun ds => if ds.length ≤ 16777216 then some ds else none
theorem few_le {m : MA} {ρ : DEnv} {ds : List D} (h : few m ρ = some ds) : m ρ = some ds ∧ ds.length ≤ sizeLine := by
  obtain ⟨x, e1, e⟩ := Option.bind_eq_some_iff.mp h
  split at e
  · cases e
    exact ⟨e1, by rw [sizeLine_eq]; assumption⟩
  · cases e
theorem fm_lst (h : AM K tl ml) : FM K (tLst tl) (few ml) := fun ρ ds e G0 H0 G H σ c Q q => by
  obtain ⟨e, hz⟩ := few_le e
  refine h ρ ds e G0 H0 G H σ c _ fun vs G1 H1 w r => ⟨by rw [r.length]; exact hz, fun p hp => ?_⟩
  have w2 := Wd.newH (o := .lst vs) w.s hp
  exact q p vs G1 _ (w.trans w2) (fresh_back w.h hp) (fresh_back w.s hp) upd_same r
theorem em_tup (h : AM K tl ml) : EM K (tTup tl) (fun ρ => (few ml ρ).map .tup) := fun ρ d e G0 H0 G H σ c Q q => by
  obtain ⟨ds, e1, e⟩ := Option.map_eq_some_iff.mp e
  subst e
  obtain ⟨e1, hz⟩ := few_le e1
  refine h ρ ds e1 G0 H0 G H σ c _ fun vs G1 H1 w r => ⟨by rw [r.length]; exact hz, fun p hp => ?_⟩
  have w2 := Wd.new (o := .tup vs) w.s hp
  exact q _ _ _ (w.trans w2) (.tup (.inl (.inl upd_same)) (r.mono w2.g))
end
end DD

set_option Elab.async false
set_option linter.all false
set_option maxRecDepth 100000
set_option maxHeartbeats 4000000
/-! DD3: the operations over data, each with its rule. -/
namespace DD
open PySem L2 Evl

abbrev D.int (i : Int) : D := .val (.int i)
abbrev D.str (z : Str) : D := .val (.str z)
abbrev D.bl (b : Bool) : D := .val (.bl b)
abbrev D.non : D := .val .non
abbrev D.ref (a : Addr) : D := .val (.ref a)
def big : Nat := 16777216
theorem big_line {n : Nat} (h : n ≤ big) : n ≤ sizeLine := by rw [sizeLine_eq]; exact h

section
variable {K : PySem.W.Frag} {G H : Hp}
theorem rp_lst {v : V} {ds : List D} (h : Rp K G v (.lst ds)) : ∃ a vs, v = .ref a ∧ SqL K G a vs ∧ Rps K G vs ds := by
  cases h with
  | lst h r => exact ⟨_, _, rfl, h, r⟩
theorem rp_tup {v : V} {ds : List D} (h : Rp K G v (.tup ds)) : ∃ a vs, v = .ref a ∧ SqT K G a vs ∧ Rps K G vs ds := by
  cases h with
  | tup h r => exact ⟨_, _, rfl, h, r⟩
theorem rp_val {v w : V} (h : Rp K G v (.val w)) : v = w := by cases h; rfl
/-- a new list, a new tuple, as the value of a reading -/
theorem new_lst {Q : VK} {d : List D} {vs : List V} (e : Ex G H) (r : Rps K G vs d) (q : ∀ v G' H', Wd G H G' H' → Rp K G' v (.lst d) → Q v H') : ∀ p, H p = none → Q (.ref p) (upd H p (.lst vs)) := fun p hp => by
  have w := Wd.new (o := .lst vs) e hp
  exact q _ _ _ w (.lst (.inl (.inl upd_same)) (r.mono w.g))
theorem new_tup {Q : VK} {d : List D} {vs : List V} (e : Ex G H) (r : Rps K G vs d) (q : ∀ v G' H', Wd G H G' H' → Rp K G' v (.tup d) → Q v H') : ∀ p, H p = none → Q (.ref p) (upd H p (.tup vs)) := fun p hp => by
  have w := Wd.new (o := .tup vs) e hp
  exact q _ _ _ w (.tup (.inl (.inl upd_same)) (r.mono w.g))

/-! ### lists put together: any two that are read -/
def rCatR (K : PySem.W.Frag) : R2 := fun x y H Q => ∃ l b xs zs, x = .ref l ∧ y = .ref b ∧ SqL K H l xs ∧ SqL K H b zs ∧ xs.length + zs.length ≤ sizeLine ∧ ∀ p, H p = none → Q (.ref p) (upd H p (.lst (xs ++ zs)))
theorem op_catR {X : Cx} : OpR X (binaryOp .Add) (rCatR X.K) := by
  intro pins s σ H x y v u Q I rx ry h
  obtain ⟨l, b, xs, zs, rfl, rfl, hH, hB, hz, q⟩ := h
  cases rx
  cases ry
  obtain ⟨its, r, ⟨o, n, ho, hc, hd, hs⟩, _⟩ := I.list hH
  obtain ⟨its2, r2, ⟨o2, n2, ho2, hc2, hd2, hs2⟩, _⟩ := I.list hB
  have l1 := r.length
  have l2 := r2.length
  obtain ⟨oc, od, odt, osl⟩ := o
  obtain ⟨oc2, od2, odt2, osl2⟩ := o2
  simp only at hc hd hs hc2 hd2 hs2
  subst hc hd hs hc2 hd2 hs2
  have e : its.toArray ++ its2.toArray = (its ++ its2).toArray := by simp
  refine PySem.concat_meets ⟨_, ho, rfl⟩ ⟨_, ho2, rfl⟩ noFill_list_add seq_list_add PySem.F.slot_list_add PySem.F.entry_list_add (PySem.F.args_list_add_2 _ _)
    (PyProof.Rows.list_addW l b its.toArray its2.toArray n n2 none none osl osl2 (by simp; omega)) ⟨ho, ho2, ?_⟩
  rw [e]
  exact ⟨.ref _, _, I.lnew (t' := s.toks) (r.append r2) (by rw [List.length_append]; omega), rfl, q _ I.fresh⟩

/-! ### + - * // % ** -/
def addD : D → D → Option D
  | .val (.int i), .val (.int j) => some (.int (i + j))
  | .val (.str x), .val (.str y) => if x.length + y.length ≤ big then some (.str (x ++ y)) else none
  | .lst xs, .lst ys => if xs.length + ys.length ≤ big then some (.lst (xs ++ ys)) else none
  | .tup xs, .tup ys => if xs.length + ys.length ≤ big then some (.tup (xs ++ ys)) else none
  | _, _ => none
def rAddD (K : PySem.W.Frag) : R2 := fun x y H Q => (∃ i j, x = .int i ∧ y = .int j ∧ Q (.int (i + j)) H) ∨ (∃ i j, x = .str i ∧ y = .str j ∧ i.length + j.length ≤ sizeLine ∧ Q (.str (i ++ j)) H) ∨ rCatR K x y H Q ∨ rCatA K x y H Q
theorem op_addD {X : Cx} : OpR X (binaryOp .Add) (rAddD X.K) := op_add.or (op_add_str.or (op_catR.or op_catA))
theorem r2_add : R2M K (rAddD K) addD := fun x y a b d G H e ra rb h Q q => by
  unfold addD at h
  split at h
  · cases h
    cases rp_val ra
    cases rp_val rb
    exact .inl ⟨_, _, rfl, rfl, q _ G H (Wd.refl e) (.val _)⟩
  · split at h
    · cases h
      cases rp_val ra
      cases rp_val rb
      exact .inr (.inl ⟨_, _, rfl, rfl, big_line (by assumption), q _ G H (Wd.refl e) (.val _)⟩)
    · cases h
  · split at h
    · cases h
      obtain ⟨p, vs, rfl, h1, r1⟩ := rp_lst ra
      obtain ⟨p2, ws, rfl, h2, r2⟩ := rp_lst rb
      refine .inr (.inr (.inl ⟨p, p2, vs, ws, rfl, rfl, ex_l e h1, ex_l e h2, ?_, new_lst e (r1.append r2) q⟩))
      rw [r1.length, r2.length]
      exact big_line (by assumption)
    · cases h
  · split at h
    · cases h
      obtain ⟨p, vs, rfl, h1, r1⟩ := rp_tup ra
      obtain ⟨p2, ws, rfl, h2, r2⟩ := rp_tup rb
      refine .inr (.inr (.inr ⟨p, p2, vs, ws, rfl, rfl, ex_t e h1, ex_t e h2, ?_, fun z => ?_, fun _ z => ?_, fun _ _ => new_tup e (r1.append r2) q⟩))
      · rw [r1.length, r2.length]
        exact big_line (by assumption)
      · subst z
        cases r1
        exact q _ G H (Wd.refl e) (.tup h2 r2)
      · subst z
        cases r2
        rw [List.append_nil] at q
        exact q _ G H (Wd.refl e) (.tup h1 r1)
    · cases h
  · cases h
def intD (c : Int → Int → Bool) (f : Int → Int → V) : D → D → Option D
  | .val (.int i), .val (.int j) => if c i j = true then some (.val (f i j)) else none
  | _, _ => none
theorem r2_int {C : Int → Int → Prop} {c : Int → Int → Bool} {f : Int → Int → V} (hc : ∀ i j, c i j = true → C i j) : R2M K (rI C f) (intD c f) := fun x y a b d G H e ra rb h Q q => by
  unfold intD at h
  split at h
  · split at h
    · cases h
      cases rp_val ra
      cases rp_val rb
      exact ⟨_, _, rfl, rfl, hc _ _ (by assumption), q _ G H (Wd.refl e) (.val _)⟩
    · cases h
  · cases h
def int0D (f : Int → Int → V) : D → D → Option D
  | .val (.int i), .val (.int j) => some (.val (f i j))
  | _, _ => none
theorem r2_int0 {f : Int → Int → V} : R2M K (rI0 f) (int0D f) := fun x y a b d G H e ra rb h Q q => by
  unfold int0D at h
  split at h
  · cases h
    cases rp_val ra
    cases rp_val rb
    exact ⟨_, _, rfl, rfl, q _ G H (Wd.refl e) (.val _)⟩
  · cases h
def subD := int0D fun i j => .int (i - j)
def mulC (i j : Int) : Bool := decide ((-(2 ^ 64) < i ∧ i < 2 ^ 64) ∨ (-(2 ^ 64) < j ∧ j < 2 ^ 64))
def mulD := intD mulC fun i j => .int (i * j)
def fdivC (_ j : Int) : Bool := decide (0 < j ∧ j < 1073741824)
def fdivD := intD fdivC fun i j => .int (i / j)
def modC (_ j : Int) : Bool := decide (0 < j)
def modD := intD modC fun i j => .int (i % j)
def powC (i j : Int) : Bool := decide (0 ≤ j ∧ j ≤ 1000000 ∧ i.natAbs < 2 ^ 64)
def powD := intD powC fun i j => .int (i ^ j.toNat)
theorem r2_sub : R2M K (rI0 fun i j => .int (i - j)) subD := r2_int0
theorem r2_mul : R2M K (rI CMul fun i j => .int (i * j)) mulD := r2_int fun i j h => by unfold mulC at h; have z := of_decide_eq_true h; exact z
theorem r2_fdiv : R2M K (rI CDiv fun i j => .int (i / j)) fdivD := r2_int fun i j h => by unfold fdivC at h; have z := of_decide_eq_true h; exact z
theorem r2_mod : R2M K (rI (fun _ j => 0 < j) fun i j => .int (i % j)) modD := r2_int fun i j h => by unfold modC at h; have z := of_decide_eq_true h; exact z
theorem r2_pow : R2M K (rI CPow fun i j => .int (i ^ j.toNat)) powD := r2_int fun i j h => by unfold powC at h; have z := of_decide_eq_true h; exact z
def negD : D → Option D
  | .val (.int i) => some (.int (-i))
  | _ => none
theorem r1_neg : R1M K (rU fun i => .int (-i)) negD := fun x a d G H e ra h Q q => by
  unfold negD at h
  split at h
  · cases h
    cases rp_val ra
    exact ⟨_, rfl, q _ G H (Wd.refl e) (.val _)⟩
  · cases h

/-! ### data as the library's data -/
def pdV : V → Option PyData
  | .non => some .none
  | .bl b => some (.bool b)
  | .int i => some (.int i)
  | .str x => some (.str x)
  | _ => none
mutual
def pd : D → Option PyData
  | .val v => pdV v
  | .lst ds => (pds ds).map .list
  | .tup ds => (pds ds).map .tuple
def pds : List D → Option (List PyData)
  | [] => some []
  | d :: ds => (pd d).bind fun p => (pds ds).map (p :: ·)
end
mutual
theorem dp_of : ∀ (d : D) {v : V} {p : PyData}, Rp K G v d → pd d = some p → Dp K G v p
  | .val w, v, p, r, h => by
    cases r
    cases w <;> simp only [pd, pdV, Option.some.injEq, reduceCtorEq] at h <;> subst h <;> constructor
  | .lst ds, v, p, r, h => by
    simp only [pd, Option.map_eq_some_iff] at h
    obtain ⟨ps, h, rfl⟩ := h
    cases r with
    | lst a b => exact .lst a (dpAll_of ds b h)
  | .tup ds, v, p, r, h => by
    simp only [pd, Option.map_eq_some_iff] at h
    obtain ⟨ps, h, rfl⟩ := h
    cases r with
    | tup a b => exact .tup a (dpAll_of ds b h)
theorem dpAll_of : ∀ (ds : List D) {vs : List V} {ps : List PyData}, Rps K G vs ds → pds ds = some ps → DpAll K G vs ps
  | [], vs, ps, r, h => by
    cases r
    simp only [pds, Option.some.injEq] at h
    subst h
    exact .nil
  | d :: ds, vs, ps, r, h => by
    simp only [pds, Option.bind_eq_some_iff, Option.map_eq_some_iff] at h
    obtain ⟨p, h1, qs, h2, rfl⟩ := h
    cases r with
    | cons a b => exact .cons (dp_of d a h1) (dpAll_of ds b h2)
end
mutual
theorem dp_ex {G' : Hp} (e : Ex G G') : ∀ (p : PyData) {v : V}, Dp K G v p → Dp K G' v p
  | .none, _, h => by cases h; constructor
  | .bool b, _, h => by cases h; constructor
  | .int b, _, h => by cases h; constructor
  | .str b, _, h => by cases h; constructor
  | .list ps, _, h => by
    cases h with
    | lst a b => exact .lst (ex_l e a) (dpAll_ex e ps b)
  | .tuple ps, _, h => by
    cases h with
    | tup a b => exact .tup (ex_t e a) (dpAll_ex e ps b)
  | .dict ps, _, h => by cases h
theorem dpAll_ex {G' : Hp} (e : Ex G G') : ∀ (ps : List PyData) {vs : List V}, DpAll K G vs ps → DpAll K G' vs ps
  | [], _, h => by cases h; constructor
  | p :: ps, _, h => by
    cases h with
    | cons a b => exact .cons (dp_ex e p a) (dpAll_ex e ps b)
end
/-- == and != -/
def scalD : D → D → Option Bool
  | .val v, .val w => if scal v w = true then some (decide (v = w)) else none
  | _, _ => none
def deepD (a b : D) : Option Bool := (pd a).bind fun p => (pd b).bind fun q => if SeqAt.shaped p && SeqAt.shaped q then some (PyData.eqv p q) else none
def sameD (a b : D) : Option Bool := match scalD a b with
  | some k => some k
  | none => deepD a b
def eqD (a b : D) : Option D := (sameD a b).map .bl
def neD (a b : D) : Option D := (sameD a b).map fun k => .bl (!k)
def rEqDD (K : PySem.W.Frag) : R2 := fun x y H Q => rEq x y H Q ∨ rEqD K x y H Q
def rNeDD (K : PySem.W.Frag) : R2 := fun x y H Q => rNe x y H Q ∨ rNeD K x y H Q
theorem op_eqDD {X : Cx} (hu : X.A.units + 64 < cLine) : OpR X (compareOp .Eq) (rEqDD X.K) := op_eq.or (op_eqD hu)
theorem op_neDD {X : Cx} (hu : X.A.units + 64 < cLine) : OpR X (compareOp .NotEq) (rNeDD X.K) := op_ne.or (op_neD hu)
theorem same_cases {a b : D} {k : Bool} (h : sameD a b = some k) : (∃ v w, a = .val v ∧ b = .val w ∧ scal v w = true ∧ k = decide (v = w)) ∨
    ∃ p q, pd a = some p ∧ pd b = some q ∧ SeqAt.shaped p = true ∧ SeqAt.shaped q = true ∧ k = PyData.eqv p q := by
  unfold sameD at h
  split at h
  · rename_i k' e
    cases h
    unfold scalD at e
    split at e
    · split at e
      · cases e
        exact .inl ⟨_, _, rfl, rfl, by assumption, rfl⟩
      · cases e
    · cases e
  · obtain ⟨p, e1, h⟩ := Option.bind_eq_some_iff.mp h
    obtain ⟨q, e2, h⟩ := Option.bind_eq_some_iff.mp h
    split at h
    · rename_i hs
      cases h
      obtain ⟨s1, s2⟩ := Bool.and_eq_true_iff.mp hs
      exact .inr ⟨p, q, e1, e2, s1, s2, rfl⟩
    · cases h
theorem r2_eq : R2M K (rEqDD K) eqD := fun x y a b d G H e ra rb h Q q => by
  obtain ⟨k, hk, rfl⟩ := Option.map_eq_some_iff.mp h
  have fin := q (.bl k) G H (Wd.refl e) (.val _)
  rcases same_cases hk with ⟨v, w, rfl, rfl, hs, rfl⟩ | ⟨p, p2, e1, e2, s1, s2, rfl⟩
  · cases rp_val ra
    cases rp_val rb
    exact .inl ⟨hs, fin⟩
  · exact .inr ⟨p, p2, dp_ex e p (dp_of a ra e1), dp_ex e p2 (dp_of b rb e2), s1, s2, fin⟩
theorem r2_ne : R2M K (rNeDD K) neD := fun x y a b d G H e ra rb h Q q => by
  obtain ⟨k, hk, rfl⟩ := Option.map_eq_some_iff.mp h
  have fin := q (.bl (!k)) G H (Wd.refl e) (.val _)
  rcases same_cases hk with ⟨v, w, rfl, rfl, hs, rfl⟩ | ⟨p, p2, e1, e2, s1, s2, rfl⟩
  · cases rp_val ra
    cases rp_val rb
    exact .inl ⟨hs, fin⟩
  · exact .inr ⟨p, p2, dp_ex e p (dp_of a ra e1), dp_ex e p2 (dp_of b rb e2), s1, s2, fin⟩
/-- is None -/
def isND : D → D → Option D
  | .val v, .val .non => some (.bl (decide (v = .non)))
  | .lst _, .val .non => some (.bl false)
  | .tup _, .val .non => some (.bl false)
  | _, _ => none
def notND : D → D → Option D
  | .val v, .val .non => some (.bl (!decide (v = .non)))
  | .lst _, .val .non => some (.bl true)
  | .tup _, .val .non => some (.bl true)
  | _, _ => none
theorem r2_isN : R2M K (fun x y H Q => y = .non ∧ Q (.bl (decide (x = .non))) H) isND := fun x y a b d G H e ra rb h Q q => by
  unfold isND at h
  split at h
  · cases h
    cases rp_val ra
    cases rp_val rb
    exact ⟨rfl, q _ G H (Wd.refl e) (.val _)⟩
  · cases h
    obtain ⟨p, vs, rfl, _⟩ := rp_lst ra
    cases rp_val rb
    exact ⟨rfl, q _ G H (Wd.refl e) (.val _)⟩
  · cases h
    obtain ⟨p, vs, rfl, _⟩ := rp_tup ra
    cases rp_val rb
    exact ⟨rfl, q _ G H (Wd.refl e) (.val _)⟩
  · cases h
theorem r2_notN : R2M K (fun x y H Q => y = .non ∧ Q (.bl (!decide (x = .non))) H) notND := fun x y a b d G H e ra rb h Q q => by
  unfold notND at h
  split at h
  · cases h
    cases rp_val ra
    cases rp_val rb
    exact ⟨rfl, q _ G H (Wd.refl e) (.val _)⟩
  · cases h
    obtain ⟨p, vs, rfl, _⟩ := rp_lst ra
    cases rp_val rb
    exact ⟨rfl, q _ G H (Wd.refl e) (.val _)⟩
  · cases h
    obtain ⟨p, vs, rfl, _⟩ := rp_tup ra
    cases rp_val rb
    exact ⟨rfl, q _ G H (Wd.refl e) (.val _)⟩
  · cases h
end
end DD

set_option Elab.async false
set_option linter.all false
set_option maxRecDepth 100000
set_option maxHeartbeats 4000000
/-! DD4: order, membership, items, slices, calls of built-ins, methods, truth. -/
namespace DD
open PySem L2 Evl
section
variable {K : PySem.W.Frag} {G H : Hp}
/-! ### order -/
def intsD : List D → Option (List Int)
  | [] => some []
  | .val (.int i) :: r => (intsD r).map (i :: ·)
  | _ :: _ => none
theorem intsD_ints : ∀ {ds : List D} {ns : List Int}, intsD ds = some ns → ds = (ns.map V.int).map .val
  | [], ns, h => by
    simp only [intsD, Option.some.injEq] at h
    subst h
    rfl
  | .val (.int i) :: r, ns, h => by
    simp only [intsD, Option.map_eq_some_iff] at h
    obtain ⟨ms, h, rfl⟩ := h
    rw [intsD_ints h]
    rfl
  | .val .non :: r, ns, h => by simp [intsD] at h
  | .val (.bl _) :: r, ns, h => by simp [intsD] at h
  | .val (.str _) :: r, ns, h => by simp [intsD] at h
  | .val (.byt _) :: r, ns, h => by simp [intsD] at h
  | .val (.flt _) :: r, ns, h => by simp [intsD] at h
  | .val (.ref _) :: r, ns, h => by simp [intsD] at h
  | .val (.ty _) :: r, ns, h => by simp [intsD] at h
  | .lst _ :: r, ns, h => by simp [intsD] at h
  | .tup _ :: r, ns, h => by simp [intsD] at h
theorem intsD_map (ns : List Int) : intsD (ns.map D.int) = some ns := by
  induction ns with
  | nil => rfl
  | cons n r ih => simp [intsD, ih]
theorem rp_ints {v : V} {ds : List D} {ns : List Int} (h : Rp K G v (.tup ds)) (hi : intsD ds = some ns) : ∃ a, v = .ref a ∧ SqT K G a (ns.map V.int) := by
  obtain ⟨a, vs, rfl, h1, r⟩ := rp_tup h
  rw [intsD_ints hi] at r
  rw [Rps.of_vals r] at h1
  exact ⟨a, rfl, h1⟩
/-- ns < ms, as tuples are ordered -/
def lexLe (ns ms : List Int) : Bool := !HT.lexLt ms ns
theorem lexAt_shift (e r : Nat → Bool) (z : Bool) : ∀ (k i : Nat), Ob.lexAt e r z (i + 1) k = Ob.lexAt (fun j => e (j + 1)) (fun j => r (j + 1)) z i k
  | 0, _ => rfl
  | k + 1, i => by
    rw [Ob.lexAt_succ, Ob.lexAt_succ, lexAt_shift e r z k (i + 1)]
theorem lexAt_le : ∀ ns ms : List Int, Ob.lexAt (fun j => decide (ns.getD j 0 = ms.getD j 0)) (fun j => decide (ns.getD j 0 ≤ ms.getD j 0)) (decide (ns.length ≤ ms.length)) 0 (min ns.length ms.length) = lexLe ns ms
  | [], [] => rfl
  | [], m :: ms => by
    rw [show min ([] : List Int).length (m :: ms).length = 0 by simp, Ob.lexAt_zero]
    simp [lexLe, HT.lexLt]
  | n :: ns, [] => by
    rw [show min (n :: ns).length ([] : List Int).length = 0 by simp, Ob.lexAt_zero]
    simp [lexLe, HT.lexLt]
  | n :: ns, m :: ms => by
    rw [show min (n :: ns).length (m :: ms).length = min ns.length ms.length + 1 by simp [Nat.succ_min_succ], Ob.lexAt_succ, lexAt_shift]
    have ih := lexAt_le ns ms
    have e1 : (fun j => decide ((n :: ns).getD (j + 1) 0 = (m :: ms).getD (j + 1) 0)) = fun j => decide (ns.getD j 0 = ms.getD j 0) := by
      funext j
      simp
    have e2 : (fun j => decide ((n :: ns).getD (j + 1) 0 ≤ (m :: ms).getD (j + 1) 0)) = fun j => decide (ns.getD j 0 ≤ ms.getD j 0) := by
      funext j
      simp
    have e3 : decide ((n :: ns).length ≤ (m :: ms).length) = decide (ns.length ≤ ms.length) := by simp
    rw [e1, e2, e3, ih]
    simp only [List.getD_cons_zero, lexLe, HT.lexLt]
    by_cases h : n = m
    · subst h
      simp
    · rw [if_neg (by simpa using h), if_neg (Ne.symm h)]
      by_cases h2 : n ≤ m
      · have : ¬ m < n := by omega
        simp [h2, this]
      · have : m < n := by omega
        simp [h2, this]
def ordD (fi : Int → Int → Bool) (fs : List Nat → List Nat → Bool) (ft : List Int → List Int → Bool) : D → D → Option D
  | .val (.int i), .val (.int j) => some (.bl (fi i j))
  | .val (.str x), .val (.str y) => some (.bl (fs x.cps.toList y.cps.toList))
  | .tup xs, .tup ys => (intsD xs).bind fun ns => (intsD ys).map fun ms => .bl (ft ns ms)
  | _, _ => none
def ltD := ordD (fun i j => decide (i < j)) (fun x y => decide (x < y)) HT.lexLt
def leD := ordD (fun i j => decide (i ≤ j)) (fun x y => !decide (y < x)) lexLe
def int2D (fi : Int → Int → Bool) : D → D → Option D
  | .val (.int i), .val (.int j) => some (.bl (fi i j))
  | _, _ => none
def gtD := int2D fun i j => decide (j < i)
def geD := int2D fun i j => decide (j ≤ i)
def rOrd (K : PySem.W.Frag) (fi : Int → Int → Bool) (fs : List Nat → List Nat → Bool) (ft : List Int → List Int → Bool) : R2 := fun x y H Q =>
  (∃ i j, x = .int i ∧ y = .int j ∧ Q (.bl (fi i j)) H) ∨ (∃ i j, x = .str i ∧ y = .str j ∧ Q (.bl (fs i.cps.toList j.cps.toList)) H) ∨
    ∃ a b ns ms, x = .ref a ∧ y = .ref b ∧ SqT K H a (ns.map V.int) ∧ SqT K H b (ms.map V.int) ∧ Q (.bl (ft ns ms)) H
theorem op_ltD {X : Cx} (hu : X.A.units < cLine) : OpR X (compareOp .Lt) (rOrd X.K (fun i j => decide (i < j)) (fun x y => decide (x < y)) HT.lexLt) := op_lt.or (op_lt_str.or (op_ltT hu))
theorem op_leD {X : Cx} (hu : X.A.units < cLine) : OpR X (compareOp .LtE) (rOrd X.K (fun i j => decide (i ≤ j)) (fun x y => !decide (y < x)) lexLe) := by
  refine op_le.or (op_le_str.or ?_)
  intro pins s σ H x y v u Q I rx ry h
  obtain ⟨a, b, ns, ms, e1, e2, ha, hb, q⟩ := h
  exact op_leT hu pins s σ H x y v u Q I rx ry ⟨a, b, ns, ms, e1, e2, ha, hb, by rw [lexAt_le]; exact q⟩
theorem r2_ord {fi : Int → Int → Bool} {fs : List Nat → List Nat → Bool} {ft : List Int → List Int → Bool} : R2M K (rOrd K fi fs ft) (ordD fi fs ft) := fun x y a b d G H e ra rb h Q q => by
  unfold ordD at h
  split at h
  · cases h
    cases rp_val ra
    cases rp_val rb
    exact .inl ⟨_, _, rfl, rfl, q _ G H (Wd.refl e) (.val _)⟩
  · cases h
    cases rp_val ra
    cases rp_val rb
    exact .inr (.inl ⟨_, _, rfl, rfl, q _ G H (Wd.refl e) (.val _)⟩)
  · obtain ⟨ns, e1, h⟩ := Option.bind_eq_some_iff.mp h
    obtain ⟨ms, e2, rfl⟩ := Option.map_eq_some_iff.mp h
    obtain ⟨p, rfl, h1⟩ := rp_ints ra e1
    obtain ⟨p2, rfl, h2⟩ := rp_ints rb e2
    exact .inr (.inr ⟨p, p2, ns, ms, rfl, rfl, ex_t e h1, ex_t e h2, q _ G H (Wd.refl e) (.val _)⟩)
  · cases h
theorem r2_lt : R2M K (rOrd K (fun i j => decide (i < j)) (fun x y => decide (x < y)) HT.lexLt) ltD := r2_ord
theorem r2_le : R2M K (rOrd K (fun i j => decide (i ≤ j)) (fun x y => !decide (y < x)) lexLe) leD := r2_ord
theorem r2_int2 {fi : Int → Int → Bool} : R2M K (rI0 fun i j => .bl (fi i j)) (int2D fi) := fun x y a b d G H e ra rb h Q q => by
  unfold int2D at h
  split at h
  · cases h
    cases rp_val ra
    cases rp_val rb
    exact ⟨_, _, rfl, rfl, q _ G H (Wd.refl e) (.val _)⟩
  · cases h
theorem r2_gt : R2M K (rI0 fun i j => .bl (decide (j < i))) gtD := r2_int2
theorem r2_ge : R2M K (rI0 fun i j => .bl (decide (j ≤ i))) geD := r2_int2

/-! ### in -/
def flatD : D → Option V
  | .val v => if flatV v = true then some v else none
  | _ => none
def flatsD : List D → Option (List V)
  | [] => some []
  | d :: r => (flatD d).bind fun v => (flatsD r).map (v :: ·)
theorem flatD_val {d : D} {v : V} (h : flatD d = some v) : d = .val v ∧ flatV v = true := by
  unfold flatD at h
  split at h
  · split at h
    · cases h
      exact ⟨rfl, by assumption⟩
    · cases h
  · cases h
theorem flatsD_vals : ∀ {ds : List D} {vs : List V}, flatsD ds = some vs → ds = vs.map .val ∧ vs.all flatV = true
  | [], vs, h => by
    simp only [flatsD, Option.some.injEq] at h
    subst h
    exact ⟨rfl, rfl⟩
  | d :: r, vs, h => by
    simp only [flatsD, Option.bind_eq_some_iff, Option.map_eq_some_iff] at h
    obtain ⟨v, h1, ws, h2, rfl⟩ := h
    obtain ⟨rfl, hf⟩ := flatD_val h1
    obtain ⟨rfl, ha⟩ := flatsD_vals h2
    exact ⟨rfl, by simp [hf, ha]⟩
/-- is a in b: a sign in a text; flat things in a list or tuple; data in a list -/
def memD : D → D → Option Bool
  | .val (.str x), .val (.str y) => if x.cps.size = 1 then some (decide (x.cps.getD 0 0 ∈ y.cps.toList)) else none
  | a, .lst ds => match flatD a, flatsD ds with
    | some v, some vs => some (inV v vs)
    | _, _ => (pd a).bind fun p => (pds ds).bind fun ps => if SeqAt.shaped p && SeqAt.shaped (.list ps) then some (ps.any fun z => PyData.eqv z p) else none
  | a, .tup ds => (flatD a).bind fun v => (flatsD ds).map fun vs => inV v vs
  | _, _ => none
def inD (a b : D) : Option D := (memD a b).map .bl
def ninD (a b : D) : Option D := (memD a b).map fun k => .bl (!k)
def rMem (K : PySem.W.Frag) (g : Bool → Bool) : R2 := fun x y H Q => (∃ (c : Nat) (z : Str), x = .str ⟨#[c]⟩ ∧ y = .str z ∧ Q (.bl (g (decide (c ∈ z.cps.toList)))) H) ∨
  (∃ p xs, y = .ref p ∧ (SqL K H p xs ∨ SqT K H p xs) ∧ flatV x = true ∧ xs.all flatV = true ∧ Q (.bl (g (inV x xs))) H) ∨
  ∃ d ds, Dp K H x d ∧ Dp K H y (.list ds) ∧ SeqAt.shaped d = true ∧ SeqAt.shaped (.list ds) = true ∧ Q (.bl (g (ds.any fun z => PyData.eqv z d))) H
theorem op_inDD {X : Cx} (hu : X.A.units + 65 < cLine) : OpR X (compareOp .In) (rMem X.K id) := op_in_sign.or (op_in_seq.or (op_inD hu))
theorem op_ninDD {X : Cx} (hu : X.A.units + 65 < cLine) : OpR X (compareOp .NotIn) (rMem X.K (!·)) := op_notIn_sign.or (op_notIn_seq.or (op_notInD hu))
theorem one_sign {x : Str} (h : x.cps.size = 1) : x = ⟨#[x.cps.getD 0 0]⟩ := by
  obtain ⟨⟨l⟩⟩ := x
  match l, h with
  | [c], _ => rfl
theorem r_mem {g : Bool → Bool} {x y : V} {a b : D} {k : Bool} (e : Ex G H) (ra : Rp K G x a) (rb : Rp K G y b) (h : memD a b = some k) {Q : VK} (q : Q (.bl (g k)) H) : rMem K g x y H Q := by
  unfold memD at h
  split at h
  · split at h
    · cases h
      cases rp_val ra
      cases rp_val rb
      exact .inl ⟨_, _, by rw [← one_sign (by assumption)], rfl, q⟩
    · cases h
  · obtain ⟨p, vs, rfl, h1, r1⟩ := rp_lst rb
    split at h
    · rename_i h2 h3
      cases h
      obtain ⟨rfl, hf⟩ := flatD_val h2
      obtain ⟨rfl, ha⟩ := flatsD_vals h3
      cases rp_val ra
      rw [Rps.of_vals r1] at h1
      exact .inr (.inl ⟨p, _, rfl, .inl (ex_l e h1), hf, ha, q⟩)
    · obtain ⟨p1, e1, h⟩ := Option.bind_eq_some_iff.mp h
      obtain ⟨ps, e2, h⟩ := Option.bind_eq_some_iff.mp h
      split at h
      · rename_i hs
        cases h
        obtain ⟨s1, s2⟩ := Bool.and_eq_true_iff.mp hs
        exact .inr (.inr ⟨p1, ps, dp_ex e p1 (dp_of a ra e1), .lst (ex_l e h1) (dpAll_ex e ps (dpAll_of _ r1 e2)), s1, s2, q⟩)
      · cases h
  · obtain ⟨p, vs, rfl, h1, r1⟩ := rp_tup rb
    obtain ⟨v, h2, h⟩ := Option.bind_eq_some_iff.mp h
    obtain ⟨ws, h3, rfl⟩ := Option.map_eq_some_iff.mp h
    obtain ⟨rfl, hf⟩ := flatD_val h2
    obtain ⟨rfl, ha⟩ := flatsD_vals h3
    cases rp_val ra
    rw [Rps.of_vals r1] at h1
    exact .inr (.inl ⟨p, _, rfl, .inr (ex_t e h1), hf, ha, q⟩)
  · cases h
theorem r2_in : R2M K (rMem K id) inD := fun x y a b d G H e ra rb h Q q => by
  obtain ⟨k, hk, rfl⟩ := Option.map_eq_some_iff.mp h
  exact r_mem e ra rb hk (q _ G H (Wd.refl e) (.val _))
theorem r2_nin : R2M K (rMem K (!·)) ninD := fun x y a b d G H e ra rb h Q q => by
  obtain ⟨k, hk, rfl⟩ := Option.map_eq_some_iff.mp h
  exact r_mem (g := (!·)) e ra rb hk (q _ G H (Wd.refl e) (.val _))

/-! ### items and slices -/
def ixD : D → D → Option D
  | .lst ds, .val (.int i) => atI ds i
  | .tup ds, .val (.int i) => atI ds i
  | .val (.str z), .val (.int i) => if z.length ≤ big then (atI z.cps.toList i).map fun c => .str ⟨#[c]⟩ else none
  | _, _ => none
theorem at_rps {vs : List V} {ds : List D} {i : Int} {d : D} (r : Rps K G vs ds) (h : atI ds i = some d) : ∃ v, atI vs i = some v ∧ Rp K G v d := by
  unfold atI at h ⊢
  rw [r.length]
  obtain ⟨j, e, h⟩ := Option.bind_eq_some_iff.mp h
  obtain ⟨v, h1, h2⟩ := r.get h
  exact ⟨v, by rw [e]; exact h1, h2⟩
theorem r2_ix : R2M K (rIx K) ixD := fun x y a b d G H e ra rb h Q q => by
  unfold ixD at h
  split at h
  · obtain ⟨p, vs, rfl, h1, r1⟩ := rp_lst ra
    cases rp_val rb
    obtain ⟨v, h2, h3⟩ := at_rps r1 h
    exact .inl ⟨p, vs, _, v, rfl, rfl, ex_l e h1, h2, q v G H (Wd.refl e) h3⟩
  · obtain ⟨p, vs, rfl, h1, r1⟩ := rp_tup ra
    cases rp_val rb
    obtain ⟨v, h2, h3⟩ := at_rps r1 h
    exact .inr (.inl ⟨p, vs, _, v, rfl, rfl, ex_t e h1, h2, q v G H (Wd.refl e) h3⟩)
  · split at h
    · obtain ⟨c, h2, rfl⟩ := Option.map_eq_some_iff.mp h
      cases rp_val ra
      cases rp_val rb
      exact .inr (.inr ⟨_, _, c, rfl, rfl, big_line (by assumption), h2, q _ G H (Wd.refl e) (.val _)⟩)
    · cases h
  · cases h
def cutD (ds : List D) (lo hi : Option Int) : List D := (ds.drop (HT.sIx ds.length 0 lo)).take (HT.sIx ds.length ds.length hi - HT.sIx ds.length 0 lo)
theorem cut_rps {vs : List V} {ds : List D} (lo hi : Option Int) (r : Rps K G vs ds) : Rps K G (cutV vs lo hi) (cutD ds lo hi) := by
  unfold cutV cutD
  rw [r.length]
  exact (r.drop _).take _
def slD : D → Option Int → Option Int → Option D
  | .lst ds, lo, hi => some (.lst (cutD ds lo hi))
  | .tup ds, lo, hi => some (.tup (cutD ds lo hi))
  | .val (.str z), lo, hi => if z.length ≤ big then some (.str (cutS z lo hi)) else none
  | _, _, _ => none
def rSlAny (K : PySem.W.Frag) : V → Option Int → Option Int → Hp → VK → Prop := fun x lo hi H Q => rSlL K x lo hi H Q ∨ rSlA K x lo hi H Q ∨ rSlS x lo hi H Q
theorem sl_any {X : Cx} : SlR X (rSlAny X.K) := sl_list.or (sl_tupA.or sl_str)
theorem cutD_whole {ds : List D} {lo hi : Option Int} (h : HT.sIx ds.length 0 lo = 0 ∧ HT.sIx ds.length ds.length hi = ds.length) : cutD ds lo hi = ds := by
  unfold cutD
  rw [h.1, h.2]
  simp
theorem rs_sl : RSM K (rSlAny K) slD := fun x a lo hi d G H e ra h Q q => by
  unfold slD at h
  split at h
  · cases h
    obtain ⟨p, vs, rfl, h1, r1⟩ := rp_lst ra
    exact .inl ⟨p, vs, rfl, ex_l e h1, new_lst e (cut_rps lo hi r1) q⟩
  · cases h
    obtain ⟨p, vs, rfl, h1, r1⟩ := rp_tup ra
    refine .inr (.inl ⟨p, vs, rfl, ex_t e h1, fun z => ?_, fun _ => new_tup e (cut_rps lo hi r1) q⟩)
    rw [r1.length] at z
    rw [cutD_whole z] at q
    exact q _ G H (Wd.refl e) (.tup h1 r1)
  · split at h
    · cases h
      cases rp_val ra
      exact .inr (.inr ⟨_, rfl, big_line (by assumption), q _ G H (Wd.refl e) (.val _)⟩)
    · cases h
  · cases h
def mRev (m : ME) : ME := fun ρ => (m ρ).bind fun d => match d with
  | .lst ds => some (.lst ds.reverse)
  | _ => none
theorem em_rev {te : TE} {me : ME} (h : EM K te me) : EM K (tRevL K te) (mRev me) := fun ρ d e G0 H0 G H σ c Q q => by
  obtain ⟨a, e1, e⟩ := Option.bind_eq_some_iff.mp e
  split at e
  · cases e
    refine h ρ _ e1 G0 H0 G H σ c _ fun v G1 H1 w r => ?_
    obtain ⟨p, vs, rfl, h1, r1⟩ := rp_lst r
    exact ⟨p, vs, rfl, ex_l w.s h1, new_lst w.s r1.reverse fun v G2 H2 w2 r2 => q v G2 H2 (w.trans w2) r2⟩
  · cases e

/-! ### built-ins by name -/
def lenD : List D → Option D
  | [.val (.str z)] => if z.length ≤ big then some (.int z.length) else none
  | [.lst ds] => some (.int ds.length)
  | [.tup ds] => some (.int ds.length)
  | _ => none
theorem rps_one {vs : List V} {d : D} (r : Rps K G vs [d]) : ∃ v, vs = [v] ∧ Rp K G v d := by
  cases r with
  | cons a b =>
    cases b
    exact ⟨_, rfl, a⟩
theorem rps_two {vs : List V} {d d2 : D} (r : Rps K G vs [d, d2]) : ∃ v w, vs = [v, w] ∧ Rp K G v d ∧ Rp K G w d2 := by
  cases r with
  | cons a b =>
    obtain ⟨w, rfl, b2⟩ := rps_one b
    exact ⟨_, w, rfl, a, b2⟩
theorem rc_len : RCM K (fun xs H Q => ∃ x n, xs = [x] ∧ LenV K x H n ∧ Q (.int n) H) lenD := fun xs as d G H e r h Q q => by
  unfold lenD at h
  split at h
  · split at h
    · cases h
      obtain ⟨v, rfl, r0⟩ := rps_one r
      cases rp_val r0
      exact ⟨_, _, rfl, ⟨big_line (by assumption), rfl⟩, q _ G H (Wd.refl e) (.val _)⟩
    · cases h
  · cases h
    obtain ⟨v, rfl, r0⟩ := rps_one r
    obtain ⟨p, vs, rfl, h1, r1⟩ := rp_lst r0
    exact ⟨_, _, rfl, .inl ⟨vs, ex_l e h1, r1.length.symm⟩, q _ G H (Wd.refl e) (.val _)⟩
  · cases h
    obtain ⟨v, rfl, r0⟩ := rps_one r
    obtain ⟨p, vs, rfl, h1, r1⟩ := rp_tup r0
    exact ⟨_, _, rfl, .inr ⟨vs, ex_t e h1, r1.length.symm⟩, q _ G H (Wd.refl e) (.val _)⟩
  · cases h
def strD : List D → Option D
  | [.val (.int i)] => if i.natAbs.log2 < 1920 then some (.str (PySem.Str.ofString (toString i))) else none
  | _ => none
theorem rc_str : RCM K (fun xs H Q => ∃ i, xs = [.int i] ∧ i.natAbs.log2 < 1920 ∧ Q (.str (toString i)) H) strD := fun xs as d G H e r h Q q => by
  unfold strD at h
  split at h
  · split at h
    · cases h
      obtain ⟨v, rfl, r0⟩ := rps_one r
      cases rp_val r0
      exact ⟨_, rfl, by assumption, q _ G H (Wd.refl e) (.val _)⟩
    · cases h
  · cases h
def intF : List D → Option D
  | [.val (.int i)] => some (.int i)
  | [.val (.bl b)] => some (.int (if b then 1 else 0))
  | [.val (.str z)] => if z.length ≤ 640 then (PySem.intText? z).map .int else none
  | _ => none
def rIntC : List V → Hp → VK → Prop := fun xs H Q => ((∃ i, xs = [.int i] ∧ Q (.int i) H) ∨ ∃ k, xs = [.bl k] ∧ Q (.int (if k then 1 else 0)) H) ∨ ∃ a n, xs = [.str a] ∧ PySem.intText? a = some n ∧ a.length ≤ 640 ∧ Q (.int n) H
theorem callR_or {X : Cx} {f : Value} {r r' : List V → Hp → VK → Prop} (h : CallR X f r) (h' : CallR X f r') : CallR X f (fun xs H Q => r xs H Q ∨ r' xs H Q) := by
  intro pins s σ H xs us Q I rx q
  rcases q with q | q
  · exact h pins s σ H xs us Q I rx q
  · exact h' pins s σ H xs us Q I rx q
theorem call_intD {X : Cx} : CallR X (.type "int") rIntC := callR_or call_int1 call_int_str
theorem rc_int : RCM K rIntC intF := fun xs as d G H e r h Q q => by
  unfold intF at h
  split at h
  · cases h
    obtain ⟨v, rfl, r0⟩ := rps_one r
    cases rp_val r0
    exact .inl (.inl ⟨_, rfl, q _ G H (Wd.refl e) (.val _)⟩)
  · cases h
    obtain ⟨v, rfl, r0⟩ := rps_one r
    cases rp_val r0
    exact .inl (.inr ⟨_, rfl, q _ G H (Wd.refl e) (.val _)⟩)
  · split at h
    · obtain ⟨n, h1, rfl⟩ := Option.map_eq_some_iff.mp h
      obtain ⟨v, rfl, r0⟩ := rps_one r
      cases rp_val r0
      exact .inr ⟨_, n, rfl, h1, by assumption, q _ G H (Wd.refl e) (.val _)⟩
    · cases h
  · cases h
def tupleD : List D → Option D
  | [.lst ds] => some (.tup ds)
  | [.tup ds] => some (.tup ds)
  | _ => none
theorem rc_tuple : RCM K (fun xs H Q => ∃ p ys, xs = [.ref p] ∧ ((SqL K H p ys ∧ ∀ l, H l = none → Q (.ref l) (upd H l (.tup ys))) ∨ (SqT K H p ys ∧ Q (.ref p) H))) tupleD := fun xs as d G H e r h Q q => by
  unfold tupleD at h
  split at h
  · cases h
    obtain ⟨v, rfl, r0⟩ := rps_one r
    obtain ⟨p, vs, rfl, h1, r1⟩ := rp_lst r0
    exact ⟨p, vs, rfl, .inl ⟨ex_l e h1, new_tup e r1 q⟩⟩
  · cases h
    obtain ⟨v, rfl, r0⟩ := rps_one r
    obtain ⟨p, vs, rfl, h1, r1⟩ := rp_tup r0
    exact ⟨p, vs, rfl, .inr ⟨ex_t e h1, q _ G H (Wd.refl e) (.tup h1 r1)⟩⟩
  · cases h
def listD : List D → Option D
  | [.lst ds] => some (.lst ds)
  | [.tup ds] => some (.lst ds)
  | _ => none
theorem rc_list : RCM K (fun xs H Q => ∃ p ys, xs = [.ref p] ∧ (SqL K H p ys ∨ SqT K H p ys) ∧ ∀ l, H l = none → Q (.ref l) (upd H l (.lst ys))) listD := fun xs as d G H e r h Q q => by
  unfold listD at h
  split at h
  · cases h
    obtain ⟨v, rfl, r0⟩ := rps_one r
    obtain ⟨p, vs, rfl, h1, r1⟩ := rp_lst r0
    exact ⟨p, vs, rfl, .inl (ex_l e h1), new_lst e r1 q⟩
  · cases h
    obtain ⟨v, rfl, r0⟩ := rps_one r
    obtain ⟨p, vs, rfl, h1, r1⟩ := rp_tup r0
    exact ⟨p, vs, rfl, .inr (ex_t e h1), new_lst e r1 q⟩
  · cases h
def blsD : List D → Option (List Bool)
  | [] => some []
  | .val (.bl b) :: r => (blsD r).map (b :: ·)
  | _ :: _ => none
theorem blsD_bls : ∀ {ds : List D} {bs : List Bool}, blsD ds = some bs → ds = (bs.map V.bl).map .val
  | [], ns, h => by
    simp only [blsD, Option.some.injEq] at h
    subst h
    rfl
  | .val (.bl i) :: r, ns, h => by
    simp only [blsD, Option.map_eq_some_iff] at h
    obtain ⟨ms, h, rfl⟩ := h
    rw [blsD_bls h]
    rfl
  | .val .non :: r, ns, h => by simp [blsD] at h
  | .val (.int _) :: r, ns, h => by simp [blsD] at h
  | .val (.str _) :: r, ns, h => by simp [blsD] at h
  | .val (.byt _) :: r, ns, h => by simp [blsD] at h
  | .val (.flt _) :: r, ns, h => by simp [blsD] at h
  | .val (.ref _) :: r, ns, h => by simp [blsD] at h
  | .val (.ty _) :: r, ns, h => by simp [blsD] at h
  | .lst _ :: r, ns, h => by simp [blsD] at h
  | .tup _ :: r, ns, h => by simp [blsD] at h
theorem blsD_map (bs : List Bool) : blsD (bs.map D.bl) = some bs := by
  induction bs with
  | nil => rfl
  | cons n r ih => simp [blsD, ih]
def allD : List D → Option D
  | [.lst ds] => (blsD ds).map fun bs => .bl (bs.all id)
  | _ => none
theorem rc_all : RCM K (rAll K) allD := fun xs as d G H e r h Q q => by
  unfold allD at h
  split at h
  · obtain ⟨bs, h1, rfl⟩ := Option.map_eq_some_iff.mp h
    obtain ⟨v, rfl, r0⟩ := rps_one r
    obtain ⟨p, vs, rfl, h2, r1⟩ := rp_lst r0
    rw [blsD_bls h1] at r1
    rw [Rps.of_vals r1] at h2
    exact ⟨p, bs, rfl, ex_l e h2, q _ G H (Wd.refl e) (.val _)⟩
  · cases h

/-! ### methods of texts -/
def strsD : List D → Option (List Str)
  | [] => some []
  | .val (.str z) :: r => (strsD r).map (z :: ·)
  | _ :: _ => none
theorem strsD_strs : ∀ {ds : List D} {zs : List Str}, strsD ds = some zs → ds = (zs.map V.str).map .val
  | [], ns, h => by
    simp only [strsD, Option.some.injEq] at h
    subst h
    rfl
  | .val (.str i) :: r, ns, h => by
    simp only [strsD, Option.map_eq_some_iff] at h
    obtain ⟨ms, h, rfl⟩ := h
    rw [strsD_strs h]
    rfl
  | .val .non :: r, ns, h => by simp [strsD] at h
  | .val (.int _) :: r, ns, h => by simp [strsD] at h
  | .val (.bl _) :: r, ns, h => by simp [strsD] at h
  | .val (.byt _) :: r, ns, h => by simp [strsD] at h
  | .val (.flt _) :: r, ns, h => by simp [strsD] at h
  | .val (.ref _) :: r, ns, h => by simp [strsD] at h
  | .val (.ty _) :: r, ns, h => by simp [strsD] at h
  | .lst _ :: r, ns, h => by simp [strsD] at h
  | .tup _ :: r, ns, h => by simp [strsD] at h
theorem strsD_map (zs : List Str) : strsD (zs.map D.str) = some zs := by
  induction zs with
  | nil => rfl
  | cons n r ih => simp [strsD, ih]
theorem rps_strs : ∀ zs : List Str, Rps K G (zs.map V.str) (zs.map D.str)
  | [] => .nil
  | z :: zs => .cons (.val _) (rps_strs zs)
def splitD : D → List D → Option D
  | .val (.str a), [.val (.str b)] => if (b.length == 0) = false ∧ a.length + 2 ≤ big then some (.lst ((Txt.split a b).map .str)) else none
  | _, _ => none
theorem rm_split : RMM K "str" (fun x xs H Q => ∃ a b, x = .str a ∧ xs = [.str b] ∧ (b.length == 0) = false ∧ a.length + 2 ≤ sizeLine ∧ rNewStrs (Txt.split a b) H Q) splitD := fun x xs a as d h => by
  unfold splitD at h
  split at h
  · split at h
    · rename_i hb
      cases h
      refine ⟨fun G H e ra => by cases rp_val ra; exact rfl, fun G H e ra r Q q => ?_⟩
      cases rp_val ra
      obtain ⟨v, rfl, r0⟩ := rps_one r
      cases rp_val r0
      refine ⟨_, _, rfl, rfl, hb.1, big_line hb.2, new_lst e ?_ q⟩
      exact rps_strs _
    · cases h
  · cases h
def joinD : D → List D → Option D
  | .val (.str a), [.lst ds] => (strsD ds).bind fun ys => if (ys.map (·.length)).sum + ys.length * a.length ≤ big then some (.str (Txt.join a ys)) else none
  | _, _ => none
theorem rm_join : RMM K "str" (fun x xs H Q => ∃ a p, ∃ ys : List Str, x = .str a ∧ xs = [.ref p] ∧ (SqL K H p (ys.map V.str) ∨ SqT K H p (ys.map V.str)) ∧
    (ys.map (·.length)).sum + ys.length * a.length ≤ 16777216 ∧ Q (.str (Txt.join a ys)) H) joinD := fun x xs a as d h => by
  unfold joinD at h
  split at h
  · obtain ⟨ys, h1, h⟩ := Option.bind_eq_some_iff.mp h
    split at h
    · rename_i hb
      cases h
      refine ⟨fun G H e ra => by cases rp_val ra; exact rfl, fun G H e ra r Q q => ?_⟩
      cases rp_val ra
      obtain ⟨v, rfl, r0⟩ := rps_one r
      obtain ⟨p, vs, rfl, h2, r1⟩ := rp_lst r0
      rw [strsD_strs h1] at r1
      rw [Rps.of_vals r1] at h2
      exact ⟨_, p, ys, rfl, rfl, .inl (ex_l e h2), hb, q _ G H (Wd.refl e) (.val _)⟩
    · cases h
  · cases h

/-! ### truth -/
def truD : D → Option Bool
  | .val .non => some false
  | .val (.bl b) => some b
  | .val (.int i) => some (i != 0)
  | .val (.str z) => if z.length ≤ big then some ((z.length : Int) != 0) else none
  | .lst ds => some (!ds.isEmpty)
  | .tup ds => some (!ds.isEmpty)
  | _ => none
theorem isEmpty_rps {vs : List V} {ds : List D} (r : Rps K G vs ds) : vs.isEmpty = ds.isEmpty := by
  cases r <;> rfl
theorem tru_of {v : V} {d : D} {k : Bool} (e : Ex G H) (r : Rp K G v d) (h : truD d = some k) : TruV K v H k := by
  unfold truD at h
  split at h
  · cases h
    cases rp_val r
    exact rfl
  · cases h
    cases rp_val r
    exact rfl
  · cases h
    cases rp_val r
    exact rfl
  · split at h
    · cases h
      cases rp_val r
      exact ⟨big_line (by assumption), rfl⟩
    · cases h
  · cases h
    obtain ⟨p, vs, rfl, h1, r1⟩ := rp_lst r
    exact .inl ⟨vs, ex_l e h1, by rw [isEmpty_rps r1]⟩
  · cases h
    obtain ⟨p, vs, rfl, h1, r1⟩ := rp_tup r
    exact .inr (.inl ⟨vs, ex_t e h1, by rw [isEmpty_rps r1]⟩)
  · cases h
end
end DD

set_option Elab.async false
set_option linter.all false
set_option maxRecDepth 100000
set_option maxHeartbeats 4000000
/-! DD5: what a statement does in terms of data; loops, comprehensions, calls; a def's promise in terms of data. -/
namespace DD
open PySem L2 Evl

inductive Out where
  | nx (ρ : DEnv) | rt (d : D) | bk (ρ : DEnv) | ct (ρ : DEnv) | ex (C : Addr) (f : Str) (x : D) (ρ : DEnv)

section
variable (K : PySem.W.Frag)
def Post (G0 H0 G : Hp) (W : WX) (E : Ends) : Out → Prop
  | .nx ρ => ∀ G' H' σ', Ex G G' → Cfg K G0 H0 G' H' σ' ρ → E.nx σ' H'
  | .rt d => ∀ v G' H', Wd G0 H0 G' H' → Rp K G' v d → E.rt v H'
  | .bk ρ => ∀ G' H' σ', Ex G G' → Cfg K G0 H0 G' H' σ' ρ → E.bk σ' H'
  | .ct ρ => ∀ G' H' σ', Ex G G' → Cfg K G0 H0 G' H' σ' ρ → E.ct σ' H'
  | .ex C f x ρ => ∀ (a : Addr) (v : V) G' H' σ', Ex G G' → Cfg K G0 H0 G' H' σ' ρ → Rp K G' v x → H' a = some (.xd [(f, v)]) → W (.ref C) (some a) σ' H'
def ExS (W : WX) (ts : TS) (ρ : DEnv) (o : Out) : Prop := ∀ G0 H0 G H σ (E : Ends), Cfg K G0 H0 G H σ ρ → Post K G0 H0 G W E o → ts E σ H
abbrev MS := DEnv → Option Out
def SM (W : WX) (ts : TS) (m : MS) : Prop := ∀ ρ o, m ρ = some o → ExS K W ts ρ o
end

section
variable {K : PySem.W.Frag} {W : WX} {t u : TS} {m n : MS} {te : TE} {me : ME} {tt : TT} {mt : MT}
theorem Post.mono {G0 H0 G G1 : Hp} {E : Ends} {o : Out} (e : Ex G G1) (p : Post K G0 H0 G W E o) : Post K G0 H0 G1 W E o := by
  cases o with
  | nx ρ => exact fun G' H' σ' x => p G' H' σ' (e.trans x)
  | rt d => exact p
  | bk ρ => exact fun G' H' σ' x => p G' H' σ' (e.trans x)
  | ct ρ => exact fun G' H' σ' x => p G' H' σ' (e.trans x)
  | ex C f x ρ => exact fun a v G' H' σ' z => p a v G' H' σ' (e.trans z)
def mNext : MS := fun ρ => some (.nx ρ)
theorem sm_next : SM K W tNext mNext := fun ρ o h G0 H0 G H σ E c p => by
  cases h
  exact p G H σ (Ex.refl G) c
def mSeq (m n : MS) : MS := fun ρ => (m ρ).bind fun o => match o with
  | .nx ρ' => n ρ'
  | o => some o
theorem sm_seq (h1 : SM K W t m) (h2 : SM K W u n) : SM K W (tSeq t u) (mSeq m n) := fun ρ o h G0 H0 G H σ E c p => by
  obtain ⟨o1, e1, h⟩ := Option.bind_eq_some_iff.mp h
  refine h1 ρ o1 e1 G0 H0 G H σ { E with nx := u E } c ?_
  cases o1 with
  | nx ρ' => exact fun G' H' σ' e' c' => h2 ρ' o h G0 H0 G' H' σ' E c' (p.mono e')
  | rt d => cases h; exact p
  | bk ρ' => cases h; exact p
  | ct ρ' => cases h; exact p
  | ex C f x ρ' => cases h; exact p
def mAsg (i : Nat) (m : ME) : MS := fun ρ => (m ρ).map fun d => .nx (ρ.set i (.pu d))
theorem sm_asg {i : Nat} (h : EM K te me) : SM K W (tAsg te (gName i)) (mAsg i me) := fun ρ o e G0 H0 G H σ E c p => by
  obtain ⟨d, e1, rfl⟩ := Option.map_eq_some_iff.mp e
  exact h ρ d e1 G0 H0 G H σ c _ fun v G' H' w r => p G' H' _ w.g ((c.mono w).set r)
/-- name = a new list that the def goes on to change -/
def mAsgO (i : Nat) (m : MA) : MS := fun ρ => (m ρ).map fun ds => .nx (ρ.set i (.ow ds))
theorem Cfg.setOw' {G0 H0 G H G' H' : Hp} {σ : L2.St} {ρ : DEnv} {i : Nat} {p : Addr} {vs : List V} {ds : List D} (c : Cfg K G0 H0 G H σ ρ) (w : Wd G H G' H') (hp : H p = none) (gp : G' p = none) (hh : H' p = some (.lst vs)) (r : Rps K G' vs ds) :
    Cfg K G0 H0 G' H' (σ.set i (some (.ref p))) (ρ.set i (.ow ds)) := by
  have c1 := c.mono w
  refine ⟨c1.wd, by rw [List.length_set, List.length_set]; exact c.len, fun j e q => ?_, fun j k ej ek a hjk qj qk oj ok => ?_⟩
  · rcases getElem?_set_some q with ⟨rfl, rfl, hl⟩ | ⟨hj, q⟩
    · exact ⟨p, by rw [List.getElem?_set_self (by rw [← c.len]; exact hl)], vs, hh, gp, fresh_back c.wd.2.1 hp, r⟩
    · rw [List.getElem?_set_ne (Ne.symm hj)]
      exact c1.slot j e q
  · have other : ∀ (j : Nat) (e : DE), ρ[j]? = some e → isOw e = true → σ[j]? ≠ some (some (.ref p)) := fun j e q oe z => by
      have s := c.slot j e q
      cases e with
      | un => cases oe
      | pu d => cases oe
      | ow es =>
        obtain ⟨b, h1, ws, h2, _⟩ := s
        rw [z] at h1
        cases h1
        rw [hp] at h2
        cases h2
    rcases getElem?_set_some qj with ⟨rfl, rfl, hl⟩ | ⟨hj, qj⟩
    · rcases getElem?_set_some qk with ⟨rfl, _, _⟩ | ⟨hk, qk⟩
      · exact absurd rfl hjk
      · rw [List.getElem?_set_self (by rw [← c.len]; exact hl), List.getElem?_set_ne (Ne.symm hk)]
        intro e
        cases e
        exact other k ek qk ok
    · have qj1 := qj
      rcases getElem?_set_some qk with ⟨rfl, rfl, hl⟩ | ⟨hk, qk⟩
      · rw [List.getElem?_set_ne (Ne.symm hj), List.getElem?_set_self (by rw [← c.len]; exact hl)]
        intro e z
        cases z
        exact other j ej qj1 oj e
      · rw [List.getElem?_set_ne (Ne.symm hj), List.getElem?_set_ne (Ne.symm hk)]
        exact c.dis j k ej ek a hjk qj qk oj ok
theorem sm_asgO {i : Nat} {ml : MA} (h : FM K te ml) : SM K W (tAsg te (gName i)) (mAsgO i ml) := fun ρ o e G0 H0 G H σ E c p => by
  obtain ⟨ds, e1, rfl⟩ := Option.map_eq_some_iff.mp e
  exact h ρ ds e1 G0 H0 G H σ c _ fun q vs G' H' w hp gp hh r => p G' H' _ w.g (c.setOw' w hp gp hh r)
def mRet (m : ME) : MS := fun ρ => (m ρ).map .rt
theorem sm_ret (h : EM K te me) : SM K W (tRet te) (mRet me) := fun ρ o e G0 H0 G H σ E c p => by
  obtain ⟨d, e1, rfl⟩ := Option.map_eq_some_iff.mp e
  exact h ρ d e1 G0 H0 G H σ c _ fun v G' H' w r => p v G' H' (c.wd0.trans w) r
def mRetN : MS := fun _ => some (.rt (.val .non))
theorem sm_retN : SM K W tRetN mRetN := fun ρ o e G0 H0 G H σ E c p => by
  cases e
  exact p .non G H c.wd0 (.val _)
def mIfS (t : MT) (a b : MS) : MS := fun ρ => (t ρ).bind fun x => if x = true then a ρ else b ρ
theorem sm_if (h : TM K tt mt) (h1 : SM K W t m) (h2 : SM K W u n) : SM K W (tIfS tt t u) (mIfS mt m n) := fun ρ o e G0 H0 G H σ E c p => by
  obtain ⟨x, e1, e⟩ := Option.bind_eq_some_iff.mp e
  refine h ρ x e1 G0 H0 G H σ c _ fun G1 H1 w => ?_
  cases x with
  | true => exact iteT (h1 ρ o e G0 H0 G1 H1 σ E (c.mono w) (p.mono w.g))
  | false => exact iteF (h2 ρ o e G0 H0 G1 H1 σ E (c.mono w) (p.mono w.g))
def mDrop (m : ME) : MS := fun ρ => (m ρ).map fun _ => .nx ρ
theorem sm_drop (h : EM K te me) : SM K W (tDrop te) (mDrop me) := fun ρ o e G0 H0 G H σ E c p => by
  obtain ⟨d, e1, rfl⟩ := Option.map_eq_some_iff.mp e
  exact h ρ d e1 G0 H0 G H σ c _ fun v G' H' w r => p G' H' _ w.g (c.mono w)
def mBreak : MS := fun ρ => some (.bk ρ)
theorem sm_break : SM K W tBreak mBreak := fun ρ o h G0 H0 G H σ E c p => by
  cases h
  exact p G H σ (Ex.refl G) c
def mCont : MS := fun ρ => some (.ct ρ)
theorem sm_cont : SM K W tCont mCont := fun ρ o h G0 H0 G H σ E c p => by
  cases h
  exact p G H σ (Ex.refl G) c
/-- own list: append -/
def mApp (i : Nat) (m : ME) : MS := fun ρ => match ρ[i]? with
  | some (.ow ds) => (m ρ).bind fun d => if ds.length < big then some (.nx (ρ.set i (.ow (ds ++ [d])))) else none
  | _ => none
theorem sm_app {i : Nat} (h : EM K te me) : SM K W (tDrop (tBM K "list" rAppend (tVar i) (tCons te tNil))) (mApp i me) := fun ρ o e G0 H0 G H σ E c p => by
  unfold mApp at e
  split at e
  · rename_i ds hi
    obtain ⟨d, e1, e⟩ := Option.bind_eq_some_iff.mp e
    split at e
    · rename_i hz
      cases e
      obtain ⟨a, ha, vs, h1, h2, h3, r⟩ := c.slot i _ hi
      refine ⟨.ref a, ha, .inl ⟨rfl, vs, .inl (.inl h1)⟩, ?_⟩
      refine h ρ d e1 G0 H0 G H σ c _ fun v G' H' w rv => ?_
      refine ⟨a, vs, v, rfl, rfl, w.h a _ h1, ?_, ?_⟩
      · rw [r.length, sizeLine_eq]
        exact hz
      · exact p G' _ _ w.g ((c.mono w).mut hi ha ((r.mono w.g).append (.cons rv .nil)))
    · cases e
  · cases e
/-- the def's own list is from here on read alone -/
def frz (i : Nat) (ρ : DEnv) : DEnv := match ρ[i]? with
  | some (.ow ds) => ρ.set i (.pu (.lst ds))
  | _ => ρ
theorem sm_frz {i : Nat} (h : SM K W t m) : SM K W t (fun ρ => m (frz i ρ)) := fun ρ o e G0 H0 G H σ E c p => by
  have e1 : m (frz i ρ) = some o := e
  unfold frz at e1
  split at e1
  · rename_i ds hi
    obtain ⟨G', e', c'⟩ := c.frz hi
    exact h _ o e1 G0 H0 G' H σ E c' (p.mono e')
  · exact h ρ o e1 G0 H0 G H σ E c p
/-- += of a name -/
def mAug (i : Nat) (f : D → D → Option D) (m : ME) : MS := fun ρ => (mVar i ρ).bind fun a => (m ρ).bind fun b => (f a b).map fun d => .nx (ρ.set i (.pu d))
theorem sm_aug {i : Nat} {r : TIp} {f : D → D → Option D} (hr : R2M K r f) (h : EM K te me) : SM K W (tAug i te r) (mAug i f me) := fun ρ o e G0 H0 G H σ E c p => by
  obtain ⟨a, e1, e⟩ := Option.bind_eq_some_iff.mp e
  obtain ⟨b, e2, e⟩ := Option.bind_eq_some_iff.mp e
  obtain ⟨d, e3, rfl⟩ := Option.map_eq_some_iff.mp e
  unfold mVar at e1
  split at e1
  · rename_i d' hi
    cases e1
    obtain ⟨v, hv, rv⟩ := c.slot i _ hi
    refine ⟨v, hv, h ρ b e2 G0 H0 G H σ c _ fun y G' H' w ry => ?_⟩
    exact hr v y _ b d G' H' w.s (rv.mono w.g) ry e3 _ fun z G2 H2 w2 rz => p G2 H2 _ (w.g.trans w2.g) ((c.mono (w.trans w2)).set rz)
  · cases e1
/-- a, b = x, y -/
def mPar (i j : Nat) (m : MA) : MS := fun ρ => (m ρ).bind fun ds => match ds with
  | [a, b] => some (.nx ((ρ.set i (.pu a)).set j (.pu b)))
  | _ => none
theorem sm_par {i j : Nat} {ta : TA} {ml : MA} (h : AM K ta ml) : SM K W (tPar i j ta) (mPar i j ml) := fun ρ o e G0 H0 G H σ E c p => by
  obtain ⟨ds, e1, e⟩ := Option.bind_eq_some_iff.mp e
  split at e
  · cases e
    refine h ρ _ e1 G0 H0 G H σ c _ fun vs G' H' w r => ?_
    obtain ⟨v, x, rfl, r1, r2⟩ := rps_two r
    exact ⟨v, x, rfl, p G' H' _ w.g (((c.mono w).set r1).set r2)⟩
  · cases e

/-! ### targets -/
/-- a target of a for or a comprehension: the slots that it stores, what they hold then -/
def GM (K : PySem.W.Frag) (g : TG) (js : List Nat) (f : D → DEnv → Option DEnv) : Prop := ∀ d ρ ρ', f d ρ = some ρ' → ∀ G0 H0 G H σ v, Cfg K G0 H0 G H σ ρ → Rp K G v d → ∀ Q : L2.St → Hp → Prop,
  (∀ σ', Cfg K G0 H0 G H σ' ρ' → (∀ vs : List Nat, (∀ j ∈ js, j ∈ vs) → wipe σ' vs = wipe σ vs) → Q σ' H) → g v σ H Q
theorem wipe_set {σ : L2.St} {j : Nat} {o : Option V} : ∀ {vs : List Nat}, j ∈ vs → wipe (σ.set j o) vs = wipe σ vs
  | [], h => by simp at h
  | k :: vs, h => by
    show (wipe (σ.set j o) vs).set k none = (wipe σ vs).set k none
    by_cases z : j ∈ vs
    · rw [wipe_set z]
    · have e : j = k := by
        rcases List.mem_cons.mp h with e | e
        · exact e
        · exact absurd e z
      subst e
      have : ∀ ws : List Nat, j ∉ ws → ∀ τ : L2.St, wipe (τ.set j o) ws = (wipe τ ws).set j o := fun ws => by
        induction ws with
        | nil => intro _ τ; rfl
        | cons w ws ih =>
          intro hn τ
          have h1 : j ≠ w := fun z => hn (by simp [z])
          have h2 : j ∉ ws := fun z => hn (by simp [z])
          show (wipe (τ.set j o) ws).set w none = ((wipe τ ws).set w none).set j o
          rw [ih h2 τ, List.set_comm _ _ h1]
      rw [this vs z σ, List.set_set]
def gN (i : Nat) : D → DEnv → Option DEnv := fun d ρ => some (ρ.set i (.pu d))
theorem gm_name {i : Nat} : GM K (gName i) [i] (gN i) := fun d ρ ρ' h G0 H0 G H σ v c r Q q => by
  cases h
  exact q _ (c.set r) fun vs hj => wipe_set (hj i (by simp))
/-- several names, one after another, from the parts of a tuple -/
def gNs : List Nat → List D → DEnv → Option DEnv
  | [], [], ρ => some ρ
  | i :: is, d :: ds, ρ => gNs is ds (ρ.set i (.pu d))
  | _, _, _ => none
def GsM (K : PySem.W.Frag) (g : TGs) (js : List Nat) : Prop := ∀ ds ρ ρ', gNs js ds ρ = some ρ' → ∀ G0 H0 G H σ vs, Cfg K G0 H0 G H σ ρ → Rps K G vs ds → ∀ Q : L2.St → Hp → Prop,
  (∀ σ', Cfg K G0 H0 G H σ' ρ' → (∀ ws : List Nat, (∀ j ∈ js, j ∈ ws) → wipe σ' ws = wipe σ ws) → Q σ' H) → g vs σ H Q
theorem gsm_nil : GsM K gNil [] := fun ds ρ ρ' h G0 H0 G H σ vs c r Q q => by
  cases ds with
  | nil =>
    cases r
    cases h
    exact ⟨rfl, q σ c fun _ _ => rfl⟩
  | cons d ds => cases h
theorem gsm_cons {i : Nat} {g : TGs} {js : List Nat} (hg : GsM K g js) : GsM K (gCons (gName i) g) (i :: js) := fun ds ρ ρ' h G0 H0 G H σ vs c r Q q => by
  cases ds with
  | nil => cases h
  | cons d ds =>
    cases r with
    | cons r1 r2 =>
      refine ⟨_, _, rfl, ?_⟩
      refine hg ds _ ρ' h G0 H0 G H _ _ (c.set r1) r2 Q fun σ' c' hw => q σ' c' fun ws hj => ?_
      rw [hw ws fun j h => hj j (by simp [h]), wipe_set (hj i (by simp))]
def gT (js : List Nat) : D → DEnv → Option DEnv := fun d ρ => match d with
  | .tup ds => gNs js ds ρ
  | _ => none
theorem gNs_len : ∀ {js : List Nat} {ds : List D} {ρ ρ' : DEnv}, gNs js ds ρ = some ρ' → ds.length = js.length
  | [], [], _, _, _ => rfl
  | i :: is, d :: ds, ρ, ρ', h => by
    rw [List.length_cons, List.length_cons, gNs_len (js := is) (ds := ds) h]
  | [], _ :: _, _, _, h => by cases h
  | _ :: _, [], _, _, h => by cases h
theorem gm_tup {g : TGs} {js : List Nat} {n : Nat} (hg : GsM K g js) (hn : n = js.length) : GM K (gTup K n g) js (gT js) := fun d ρ ρ' h G0 H0 G H σ v c r Q q => by
  unfold gT at h
  split at h
  · obtain ⟨p, vs, rfl, h1, r1⟩ := rp_tup r
    refine ⟨p, vs, rfl, ex_t c.sub h1, ?_, hg _ ρ ρ' h G0 H0 G H σ vs c r1 Q q⟩
    rw [r1.length, gNs_len h, hn]
  · cases h
/-- a, b = e -/
def mAsgG (f : D → DEnv → Option DEnv) (m : ME) : MS := fun ρ => (m ρ).bind fun d => (f d ρ).map .nx
theorem sm_asgG {g : TG} {js : List Nat} {f : D → DEnv → Option DEnv} (hg : GM K g js f) (h : EM K te me) : SM K W (tAsg te g) (mAsgG f me) := fun ρ o e G0 H0 G H σ E c p => by
  obtain ⟨d, e1, e⟩ := Option.bind_eq_some_iff.mp e
  obtain ⟨ρ', e2, rfl⟩ := Option.map_eq_some_iff.mp e
  exact h ρ d e1 G0 H0 G H σ c _ fun v G' H' w r => hg d ρ ρ' e2 G0 H0 G' H' σ v (c.mono w) r _ fun σ' c' _ => p G' H' σ' w.g c'

/-! ### what is walked -/
/-- an iterator of the data ds -/
def WalkD (K : PySem.W.Frag) (G H : Hp) (J : It) (ds : List D) : Prop := ∃ (Gs : Hp → Prop) (Y : Nat → Hp → V → Hp → Prop), Walk J ds.length Gs Y ∧ (∀ H', Ex G H' → Gs H') ∧
  ∀ i G1 H1 x H2, i < ds.length → Ex G G1 → Ex G1 H1 → Y i H1 x H2 → ∃ d G2, ds[i]? = some d ∧ Wd G1 H1 G2 H2 ∧ Rp K G2 x d
def EvI (K : PySem.W.Frag) (wi : TI) (ρ : DEnv) (ds : List D) : Prop := ∀ G0 H0 G H σ, Cfg K G0 H0 G H σ ρ → ∀ R : It → Hp → Prop, (∀ J G' H', Wd G H G' H' → WalkD K G' H' J ds → R J H') → wi σ H R
def IM (K : PySem.W.Frag) (wi : TI) (m : MA) : Prop := ∀ ρ ds, m ρ = some ds → EvI K wi ρ ds
/-- a list, a tuple, a text -/
def signsD (z : Str) : List D := z.cps.toList.map fun c => D.str ⟨#[c]⟩
def itemsD : D → Option (List D)
  | .lst ds => some ds
  | .tup ds => some ds
  | .val (.str z) => some (signsD z)
  | _ => none
theorem walk_seqD {G H : Hp} {J : It} {vs : List V} {ds : List D} {Gs : Hp → Prop} (w : Walk J vs.length Gs (YAt vs)) (hg : ∀ H', Ex G H' → Gs H') (r : Rps K G vs ds) : WalkD K G H J ds := by
  rw [r.length] at w
  refine ⟨Gs, YAt vs, w, hg, fun i G1 H1 x H2 hi e1 e2 y => ?_⟩
  obtain ⟨rfl, hx⟩ := y
  obtain ⟨d, hd, rd⟩ := r.getV hx
  exact ⟨d, G1, hd, Wd.refl e2, rd.mono e1⟩
theorem ev_list {ρ : DEnv} {ds : List D} (h : EvD K te ρ (.lst ds)) : EvI K (iList K te) ρ ds := fun G0 H0 G H σ c R q => by
  refine h G0 H0 G H σ c _ fun v G' H' w r => ?_
  obtain ⟨p, vs, rfl, h1, r1⟩ := rp_lst r
  exact ⟨p, rfl, ⟨vs, ex_l w.s h1⟩, q _ G' H' w (walk_seqD walk_list (fun H2 e2 => ex_l e2 h1) r1)⟩
theorem ev_tup {ρ : DEnv} {ds : List D} (h : EvD K te ρ (.tup ds)) : EvI K (iTup K te) ρ ds := fun G0 H0 G H σ c R q => by
  refine h G0 H0 G H σ c _ fun v G' H' w r => ?_
  obtain ⟨p, vs, rfl, h1, r1⟩ := rp_tup r
  exact ⟨p, rfl, ⟨vs, ex_t w.s h1⟩, q _ G' H' w (walk_seqD walk_tup (fun H2 e2 => ex_t e2 h1) r1)⟩
theorem ev_str {ρ : DEnv} {z : Str} (h : EvD K te ρ (.str z)) : EvI K (iStr te) ρ (signsD z) := fun G0 H0 G H σ c R q => by
  refine h G0 H0 G H σ c _ fun v G' H' w r => ?_
  cases rp_val r
  have hl : (signsD z).length = z.cps.size := by simp [signsD]
  have wk := walk_str (z := z)
  rw [← hl] at wk
  refine ⟨z, rfl, q _ G' H' w ⟨_, _, wk, fun _ _ => trivial, fun i G1 H1 x H2 hi e1 e2 y => ?_⟩⟩
  obtain ⟨rfl, c', hc, rfl⟩ := y
  refine ⟨D.str ⟨#[c']⟩, G1, ?_, Wd.refl e2, .val _⟩
  unfold signsD
  rw [List.getElem?_map, Array.getElem?_toList, hc]
  rfl
/-- any of the three -/
def iAny (K : PySem.W.Frag) (te : TE) : TI := fun σ H R => iList K te σ H R ∨ iTup K te σ H R ∨ iStr te σ H R
def mItems (m : ME) : MA := fun ρ => (m ρ).bind itemsD
theorem im_any (h : EM K te me) : IM K (iAny K te) (mItems me) := fun ρ ds e G0 H0 G H σ c R q => by
  obtain ⟨d, e1, e⟩ := Option.bind_eq_some_iff.mp e
  have h1 := h ρ d e1
  cases d with
  | lst xs =>
    cases e
    exact .inl (ev_list h1 G0 H0 G H σ c R q)
  | tup xs =>
    cases e
    exact .inr (.inl (ev_tup h1 G0 H0 G H σ c R q))
  | val v =>
    cases v with
    | str z =>
      cases e
      exact .inr (.inr (ev_str h1 G0 H0 G H σ c R q))
    | _ => cases e
/-- range(n), range(a, b), range(a, b, c) -/
def rangeD (lo : Int) (n : Nat) : List D := (List.range n).map fun (i : Nat) => D.int (lo + (i : Int))
theorem walk_rangeD {G H : Hp} {lo : Int} {n : Nat} : WalkD K G H (Itr lo n) (rangeD lo n) := by
  have hl : (rangeD lo n).length = n := by simp [rangeD]
  have wk := walk_range (lo := lo) (n := n)
  refine ⟨fun _ => True, _, by rw [hl]; exact wk, fun _ _ => trivial, fun i G1 H1 x H2 hi e1 e2 y => ?_⟩
  obtain ⟨rfl, rfl⟩ := y
  rw [hl] at hi
  refine ⟨D.int (lo + (i : Int)), G1, ?_, Wd.refl e2, .val _⟩
  unfold rangeD
  rw [List.getElem?_map, List.getElem?_range hi]
  rfl
def mRange1 (m : MA) : MA := fun ρ => (m ρ).bind fun ds => match ds with
  | [.val (.int n)] => if -(2 ^ 62) ≤ n ∧ n < 2 ^ 62 then some (rangeD 0 n.toNat) else none
  | _ => none
def mRange2 (m : MA) : MA := fun ρ => (m ρ).bind fun ds => match ds with
  | [.val (.int a), .val (.int b)] => if (-(2 ^ 62) ≤ a ∧ a < 2 ^ 62) ∧ (-(2 ^ 62) ≤ b ∧ b < 2 ^ 62) then some (rangeD a (b - a).toNat) else none
  | _ => none
/-- zip of two lists; enumerate of a list -/
def zipD : List D → List D → List D
  | a :: as, b :: bs => .tup [a, b] :: zipD as bs
  | _, _ => []
theorem zipD_len : ∀ as bs : List D, (zipD as bs).length = min as.length bs.length
  | [], _ => by simp [zipD]
  | _ :: _, [] => by simp [zipD]
  | a :: as, b :: bs => by simp [zipD, zipD_len as bs, Nat.succ_min_succ]
theorem zipD_get : ∀ {as bs : List D} {i : Nat} {a b : D}, as[i]? = some a → bs[i]? = some b → (zipD as bs)[i]? = some (.tup [a, b])
  | [], _, _, _, _, h, _ => by simp at h
  | _ :: _, [], _, _, _, _, h => by simp at h
  | x :: as, y :: bs, 0, a, b, h, h2 => by
    simp only [List.getElem?_cons_zero, Option.some.injEq] at h h2
    subst h h2
    rfl
  | x :: as, y :: bs, i + 1, a, b, h, h2 => by
    simp only [List.getElem?_cons_succ] at h h2
    exact zipD_get (as := as) (bs := bs) h h2
theorem walk_zipD {G H : Hp} {a b : Addr} {vs ws : List V} {as bs : List D} (h1 : SqL K G a vs) (h2 : SqL K G b ws) (r1 : Rps K G vs as) (r2 : Rps K G ws bs) : WalkD K G H (Itz K a b) (zipD as bs) := by
  have wk := walk_zip (K := K) (a := a) (b := b) (xs := vs) (ys := ws) (n := (zipD as bs).length) (by rw [zipD_len, r1.length, r2.length])
  refine ⟨_, _, wk, fun H' e => ⟨ex_l e h1, ex_l e h2⟩, fun i G1 H1 x H2 hi e1 e2 y => ?_⟩
  obtain ⟨T, v, w, rfl, hT, rfl, hv, hw⟩ := y
  obtain ⟨d1, g1, p1⟩ := r1.getV hv
  obtain ⟨d2, g2, p2⟩ := r2.getV hw
  have wd := Wd.new (o := .tup [v, w]) e2 hT
  exact ⟨_, _, zipD_get g1 g2, wd, .tup (.inl (.inl upd_same)) (.cons (p1.mono (e1.trans wd.g)) (.cons (p2.mono (e1.trans wd.g)) .nil))⟩
def enumD (ds : List D) : List D := zipD (rangeD 0 ds.length) ds
theorem walk_enumD {G H : Hp} {a : Addr} {vs : List V} {ds : List D} (h1 : SqL K G a vs) (r1 : Rps K G vs ds) : WalkD K G H (Ite K a) (enumD ds) := by
  have hl : (enumD ds).length = vs.length := by
    unfold enumD
    rw [zipD_len]
    simp [rangeD, r1.length]
  have wk := walk_enum (K := K) (a := a) (xs := vs)
  refine ⟨_, _, by rw [hl]; exact wk, fun H' e => ex_l e h1, fun i G1 H1 x H2 hi e1 e2 y => ?_⟩
  obtain ⟨T, v, w, rfl, hT, rfl, hv, hw⟩ := y
  obtain ⟨d2, g2, p2⟩ := r1.getV hw
  cases hv
  have wd := Wd.new (o := .tup [.int (i : Nat), w]) e2 hT
  have hi' : i < ds.length := by rw [hl, r1.length] at hi; exact hi
  have g1 : (rangeD 0 ds.length)[i]? = some (D.int (i : Nat)) := by
    unfold rangeD
    rw [List.getElem?_map, List.getElem?_range hi']
    simp
  exact ⟨_, _, zipD_get g1 g2, wd, .tup (.inl (.inl upd_same)) (.cons (.val _) (.cons (p2.mono (e1.trans wd.g)) .nil))⟩

/-! ### for -/
def forL (set : D → DEnv → Option DEnv) (body : MS) : List D → DEnv → Option Out
  | [], ρ => some (.nx ρ)
  | x :: r, ρ => (set x ρ).bind fun ρ1 => (body ρ1).bind fun o => match o with
    | .nx ρ' => forL set body r ρ'
    | .ct ρ' => forL set body r ρ'
    | .bk ρ' => some (.nx ρ')
    | o => some o
def mFor (mi : MA) (set : D → DEnv → Option DEnv) (body : MS) : MS := fun ρ => (mi ρ).bind fun ds => forL set body ds ρ
theorem sm_for {wi : TI} {mi : MA} {g : TG} {js : List Nat} {f : D → DEnv → Option DEnv} (hi : IM K wi mi) (hg : GM K g js f) (hb : SM K W t m) : SM K W (tFor wi g t) (mFor mi f m) := fun ρ o e G0 H0 G H σ E c p => by
  obtain ⟨ds, e1, e⟩ := Option.bind_eq_some_iff.mp e
  refine hi ρ ds e1 G0 H0 G H σ c _ fun J G1 H1 w ⟨Gs, Y, wk, hgs, hy⟩ => ?_
  have c1 := c.mono w
  refine for_it wk (fun i σ' H' => ∃ G' ρ', Ex G1 G' ∧ Cfg K G0 H0 G' H' σ' ρ' ∧ forL f m (ds.drop i) ρ' = some o) ⟨G1, ρ, Ex.refl _, c1, e⟩ (fun i σ' H' _ ⟨G', ρ', e', c', _⟩ => hgs H' (e'.trans c'.sub)) ?_ ?_
  · rintro i x σ' H' H2 hlt ⟨G', ρ', e', c', hf⟩ y
    obtain ⟨d, G2, hd, w2, rx⟩ := hy i G' H' x H2 hlt e' c'.sub y
    have hdrop : ds.drop i = d :: ds.drop (i + 1) := by
      obtain ⟨h1, h2⟩ := List.getElem?_eq_some_iff.mp hd
      rw [List.drop_eq_getElem_cons h1, h2]
    rw [hdrop] at hf
    obtain ⟨ρ1, hs, hf⟩ := Option.bind_eq_some_iff.mp hf
    obtain ⟨o1, ho, hf⟩ := Option.bind_eq_some_iff.mp hf
    refine hg d ρ' ρ1 hs G0 H0 G2 H2 σ' x (c'.mono w2) rx _ fun σ2 c2 _ => ?_
    refine hb ρ1 o1 ho G0 H0 G2 H2 σ2 _ c2 ?_
    have e2 : Ex G1 G2 := e'.trans w2.g
    cases o1 with
    | nx ρ3 => exact fun G3 H3 σ3 e3 c3 => ⟨G3, ρ3, e2.trans e3, c3, hf⟩
    | ct ρ3 => exact fun G3 H3 σ3 e3 c3 => ⟨G3, ρ3, e2.trans e3, c3, hf⟩
    | bk ρ3 =>
      cases hf
      exact fun G3 H3 σ3 e3 c3 => p G3 H3 σ3 (w.g.trans (e2.trans e3)) c3
    | rt d =>
      cases hf
      exact p
    | ex C fl x ρ3 =>
      cases hf
      exact fun a v G3 H3 σ3 e3 c3 => p a v G3 H3 σ3 (w.g.trans (e2.trans e3)) c3
  · rintro σ' H' ⟨G', ρ', e', c', hf⟩
    rw [List.drop_length] at hf
    cases hf
    exact p G' H' σ' (w.g.trans e') c'

/-! ### while, with a bound on its turns -/
def whileN (t : MT) (body : MS) : Nat → DEnv → Option Out
  | 0, _ => none
  | k + 1, ρ => (t ρ).bind fun b => if b = true then (body ρ).bind fun o => match o with
      | .nx ρ' => whileN t body k ρ'
      | .ct ρ' => whileN t body k ρ'
      | .bk ρ' => some (.nx ρ')
      | o => some o
    else some (.nx ρ)
theorem sm_while {k : Nat} (ht : TM K tt mt) (hb : SM K W t m) : SM K W (tWhile tt t) (whileN mt m k) := fun ρ o e G0 H0 G H σ E c p => by
  refine ⟨fun n σ' H' => ∃ G' ρ', Ex G G' ∧ Cfg K G0 H0 G' H' σ' ρ' ∧ whileN mt m n ρ' = some o, ⟨k, G, ρ, Ex.refl _, c, e⟩, ?_⟩
  rintro n σ1 H1 ⟨G1, ρ1, e1, c1, hw⟩
  cases n with
  | zero => cases hw
  | succ n =>
    obtain ⟨b, hb1, hw⟩ := Option.bind_eq_some_iff.mp hw
    refine ht ρ1 b hb1 G0 H0 G1 H1 σ1 c1 _ fun G2 H2 w2 => ?_
    cases b with
    | true =>
      rw [if_pos rfl] at hw
      obtain ⟨o1, ho, hw⟩ := Option.bind_eq_some_iff.mp hw
      refine iteT ⟨fun σ' H' => ∃ G' ρ', Ex G G' ∧ Cfg K G0 H0 G' H' σ' ρ' ∧ whileN mt m n ρ' = some o, fun σ' H' z => ⟨n, Nat.lt_succ_self n, z⟩, ?_⟩
      refine hb ρ1 o1 ho G0 H0 G2 H2 σ1 _ (c1.mono w2) ?_
      have e2 : Ex G G2 := e1.trans w2.g
      cases o1 with
      | nx ρ3 => exact fun G3 H3 σ3 e3 c3 => ⟨G3, ρ3, e2.trans e3, c3, hw⟩
      | ct ρ3 => exact fun G3 H3 σ3 e3 c3 => ⟨G3, ρ3, e2.trans e3, c3, hw⟩
      | bk ρ3 =>
        cases hw
        exact fun G3 H3 σ3 e3 c3 => p G3 H3 σ3 (e2.trans e3) c3
      | rt d =>
        cases hw
        exact p
      | ex C fl x ρ3 =>
        cases hw
        exact fun a v G3 H3 σ3 e3 c3 => p a v G3 H3 σ3 (e2.trans e3) c3
    | false =>
      cases hw
      exact iteF (p G2 H2 σ1 (e1.trans w2.g) (c1.mono w2))

/-! ### comprehensions -/
def wipeD (ρ : DEnv) : List Nat → DEnv
  | [] => ρ
  | v :: vs => (wipeD ρ vs).set v .un
theorem Cfg.wipe {G0 H0 G H : Hp} {σ : L2.St} {ρ : DEnv} (c : Cfg K G0 H0 G H σ ρ) : ∀ vs : List Nat, Cfg K G0 H0 G H (L2.wipe σ vs) (wipeD ρ vs)
  | [] => c
  | v :: vs => (Cfg.wipe c vs).setU
theorem wipe_wipe {σ : L2.St} : ∀ (ws vs : List Nat), (∀ j ∈ ws, j ∈ vs) → wipe (wipe σ ws) vs = wipe σ vs
  | [], vs, _ => rfl
  | w :: ws, vs, h => by
    show wipe ((wipe σ ws).set w none) vs = _
    rw [wipe_set (h w (by simp)), wipe_wipe ws vs fun j hj => h j (by simp [hj])]
def lcL (set : D → DEnv → Option DEnv) (cond : MT) (elt : ME) (ρ : DEnv) : List D → Option (List D)
  | [] => some []
  | x :: r => (set x ρ).bind fun ρ1 => (cond ρ1).bind fun b => if b = true then (elt ρ1).bind fun y => (lcL set cond elt ρ r).map (y :: ·) else lcL set cond elt ρ r
theorem lcL_len {set : D → DEnv → Option DEnv} {cond : MT} {elt : ME} {ρ : DEnv} : ∀ {ds ys : List D}, lcL set cond elt ρ ds = some ys → ys.length ≤ ds.length
  | [], ys, h => by cases h; simp
  | x :: r, ys, h => by
    obtain ⟨ρ1, h1, h⟩ := Option.bind_eq_some_iff.mp h
    obtain ⟨b, h2, h⟩ := Option.bind_eq_some_iff.mp h
    cases b with
    | true =>
      obtain ⟨y, h3, h⟩ := Option.bind_eq_some_iff.mp h
      obtain ⟨zs, h4, rfl⟩ := Option.map_eq_some_iff.mp h
      have := lcL_len h4
      simp only [List.length_cons]
      omega
    | false =>
      have h' : lcL set cond elt ρ r = some ys := h
      have := lcL_len h'
      simp only [List.length_cons]
      omega
def mYes : MT := fun _ => some true
theorem tm_yes : TM K tYes mYes := fun ρ b e G0 H0 G H σ c Q q => by
  cases e
  exact q G H (Wd.refl c.sub)
def mLc (mi : MA) (set : D → DEnv → Option DEnv) (cond : MT) (elt : ME) (vs : List Nat) : MA := fun ρ => (mi ρ).bind fun ds => if ds.length ≤ 10000000 then lcL set cond elt (wipeD ρ vs) ds else none
theorem fm_lc {wi : TI} {mi : MA} {g : TG} {js vs : List Nat} {f : D → DEnv → Option DEnv} (hi : IM K wi mi) (hg : GM K g js f) (hj : ∀ j ∈ js, j ∈ vs) (ht : TM K tt mt) (he : EM K te me) : FM K (tLc wi g tt te vs) (mLc mi f mt me vs) := fun ρ ys e G0 H0 G H σ c Q q => by
  obtain ⟨ds, e1, e⟩ := Option.bind_eq_some_iff.mp e
  split at e
  case isFalse => cases e
  rename_i hz
  refine hi ρ ds e1 G0 H0 G H σ c _ fun J G1 H1 w ⟨Gs, Y, wk, hgs, hy⟩ Dl hD => ?_
  have c1 := c.mono w
  refine lc_it wk (fun i H' => ∃ G' accV accD rest, Wd G1 H1 G' H' ∧ G' Dl = none ∧ H' Dl = some (.lst accV) ∧ Rps K G' accV accD ∧ lcL f mt me (wipeD ρ vs) (ds.drop i) = some rest ∧ accD ++ rest = ys ∧ accD.length ≤ i)
    ⟨G1, [], [], ys, Wd.newH c1.sub hD, fresh_back c1.sub hD, upd_same, .nil, e, rfl, Nat.zero_le _⟩ (fun i H' _ ⟨G', _, _, _, w', _⟩ => hgs H' (w'.g.trans w'.s)) ?_ ?_
  · rintro i x H' H2 hlt ⟨G', accV, accD, rest, w', gD, hDl, ra, hr, hyy, hai⟩ y
    obtain ⟨d, G2, hd, w2, rx⟩ := hy i G' H' x H2 hlt w'.g w'.s y
    have hdrop : ds.drop i = d :: ds.drop (i + 1) := by
      obtain ⟨h1, h2⟩ := List.getElem?_eq_some_iff.mp hd
      rw [List.drop_eq_getElem_cons h1, h2]
    rw [hdrop] at hr
    obtain ⟨ρ1, hs, hr⟩ := Option.bind_eq_some_iff.mp hr
    obtain ⟨b, hbt, hr⟩ := Option.bind_eq_some_iff.mp hr
    have w12 := w'.trans w2
    refine hg d _ ρ1 hs G0 H0 G2 H2 _ x ((c1.mono w12).wipe vs) rx _ fun σ2 c2 hw => ⟨(hw vs hj).trans (wipe_wipe vs vs fun _ h => h), ?_⟩
    refine ht ρ1 b hbt G0 H0 G2 H2 σ2 c2 _ fun G3 H3 w3 => ?_
    have d3 : H3 Dl = some (.lst accV) := w3.h Dl _ (w2.h Dl _ hDl)
    have g2 : G2 Dl = none := w2.c Dl (by rw [hDl]; exact Option.some_ne_none _) gD
    have g3 : G3 Dl = none := w3.c Dl (by rw [w2.h Dl _ hDl]; exact Option.some_ne_none _) g2
    cases b with
    | true =>
      rw [if_pos rfl] at hr
      obtain ⟨yv, hel, hr⟩ := Option.bind_eq_some_iff.mp hr
      obtain ⟨rest', hr2, rfl⟩ := Option.map_eq_some_iff.mp hr
      refine iteT (he ρ1 yv hel G0 H0 G3 H3 σ2 (c2.mono w3) _ fun v G4 H4 w4 rv => ?_)
      have d4 := w4.h Dl _ d3
      have g4 : G4 Dl = none := w4.c Dl (by rw [d3]; exact Option.some_ne_none _) g3
      have w14 := (w12.trans w3).trans w4
      refine ⟨accV, d4, ?_, G4, accV ++ [v], accD ++ [yv], rest', ⟨w14.g, Ex.mut w14.h hD, fun a u z => ?_, w14.c⟩, g4, upd_same, (ra.mono (w2.g.trans (w3.g.trans w4.g))).append (.cons rv .nil), hr2, by rw [List.append_assoc]; exact hyy, ?_⟩
      · rw [ra.length, sizeLine_eq]
        omega
      · have na : a ≠ Dl := fun y => by rw [y, g4] at z; cases z
        rw [upd_ne na]
        exact w4.s a u z
      · rw [List.length_append]
        simp only [List.length_cons, List.length_nil]
        omega
    | false =>
      have hr' : lcL f mt me (wipeD ρ vs) (ds.drop (i + 1)) = some rest := hr
      exact iteF ⟨G3, accV, accD, rest, w12.trans w3, g3, d3, ra.mono (w2.g.trans w3.g), hr', hyy, by omega⟩
  · rintro H' ⟨G', accV, accD, rest, w', gD, hDl, ra, hr, hyy, _⟩
    rw [List.drop_length] at hr
    cases hr
    rw [List.append_nil] at hyy
    subst hyy
    exact q Dl accV G' H' (w.trans w') (fresh_back w.h hD) gD hDl ra
end
end DD

set_option Elab.async false
set_option linter.all false
set_option maxRecDepth 100000
set_option maxHeartbeats 4000000
/-! DD6: a piece of syntax with its reading and its meaning over data; a def's promise over data. -/
namespace DD
open PySem PySem.Spec PyProof.Rows L2 Evl

structure JE (X : Cx) (e : Expr) (t : TE) (m : ME) : Prop where
  p : PE X e t
  m : EM X.K t m
structure JT (X : Cx) (e : Expr) (t : TT) (m : MT) : Prop where
  p : PT X e t
  m : TM X.K t m
structure JW (X : Cx) (e : Expr) (t : TT) (m : MT) : Prop where
  p : PW X e t
  m : TM X.K t m
structure JA (X : Cx) (es : List Expr) (t : TA) (m : MA) : Prop where
  p : PA X es t
  m : AM X.K t m
structure JO (X : Cx) (e : Option Expr) (t : TO) (m : MO) : Prop where
  p : PO X e t
  m : OM X.K t m
structure JF (X : Cx) (e : Expr) (t : TE) (m : MA) : Prop where
  p : PE X e t
  m : FM X.K t m
structure JI (X : Cx) (tg it : Expr) (w : TI) (m : MA) : Prop where
  p : PI X tg it w
  m : IM X.K w m
structure JG (X : Cx) (tg : Expr) (g : TG) (js : List Nat) (f : D → DEnv → Option DEnv) : Prop where
  p : PG X tg g
  m : GM X.K g js f
structure JGs (X : Cx) (tgs : List Expr) (g : TGs) (js : List Nat) : Prop where
  p : PGs X tgs g
  m : GsM X.K g js
structure JTs (X : Cx) (es : List Expr) (t : TT) (m : MT) : Prop where
  p : PTs X es t
  m : TM X.K t m
structure JS (X : Cx) (W : WX) (s : Stmt) (t : TS) (m : MS) : Prop where
  p : PS X s t
  m : SM X.K W t m
structure JB (X : Cx) (W : WX) (s : List Stmt) (t : TS) (m : MS) : Prop where
  p : PSs X s t
  m : SM X.K W t m

section
variable {X : Cx} {W : WX} {a b c e o : Expr} {es : List Expr} {ta tb tc te : TE} {ma mb mc me : ME} {tt tu : TT} {mt mu : MT} {tl : TA} {ml : MA} {pos p2 p3 : Pos} {k j : Nat} {x : Str}
/-! ### names, constants -/
theorem j_var (i : Nat) {x : Str} {pos : Pos} (hN : X.N[i]? = some x := by rfl) (hv : Vis X.env.scope x := by first | exact Or.inl rfl | exact Or.inr (Or.inl rfl) | exact Or.inr (Or.inr rfl)) (hd : (x == ("__debug__" : Str)) = false := by decide)
    (hcd : (x == ("__classdict__" : Str)) = false := by decide) : JE X (.Name x pos) (tVar i) (mVar i) := ⟨pe_var hN hv hd hcd, em_var⟩
theorem j_int {i : Int} {j : Nat} : JE X (.Constant (.int i) j pos) (tC (.int i)) (mC (.int i)) := ⟨pe_int, em_c⟩
theorem j_str {z : Str} {j : Nat} : JE X (.Constant (.str z) j pos) (tC (.str z)) (mC (.str z)) := ⟨pe_str, em_c⟩
theorem j_bl {z : Bool} {j : Nat} : JE X (.Constant (.bool z) j pos) (tC (.bl z)) (mC (.bl z)) := ⟨pe_bl, em_c⟩
theorem j_non {j : Nat} : JE X (.Constant .none j pos) (tC .non) (mC .non) := ⟨pe_non, em_c⟩
/-- a module's constant (a number, a text), a def as a value -/
theorem j_glob {v : V} (h : ∃ u, X.mg x = some u ∧ RelV v u) (hg : Gl X x := by rfl) (hd : (x == ("__debug__" : Str)) = false := by decide) : JE X (.Name x pos) (tC v) (mC v) := by
  obtain ⟨u, h1, h2⟩ := h
  exact ⟨pe_glob hg h1 h2 hd, em_c⟩
/-- a module's tuple or list -/
theorem j_globD {v : V} {d : D} (h : (∃ u, X.mg x = some u ∧ RelV v u) ∧ ∀ G, Rp X.K G v d) (hg : Gl X x := by rfl) (hd : (x == ("__debug__" : Str)) = false := by decide) {K : PySem.W.Frag} (hK : X.K = K := by rfl) : JE X (.Name x pos) (tC v) (mK d) := by
  subst hK
  obtain ⟨⟨u, h1, h2⟩, h3⟩ := h
  exact ⟨pe_glob hg h1 h2 hd, em_k h3⟩
/-! ### operators -/
theorem j_op {op : Operator} {r : R2} {f : D → D → Option D} (ho : OpR X (binaryOp op) r) (hr : R2M X.K r f) (ha : JE X a ta ma) (hb : JE X b tb mb) : JE X (.BinOp a op b pos) (tOp r ta tb) (mOp f ma mb) := ⟨pe_op ho ha.p hb.p, em_op hr ha.m hb.m⟩
theorem j_add (ha : JE X a ta ma) (hb : JE X b tb mb) {K : PySem.W.Frag} (hK : X.K = K := by rfl) : JE X (.BinOp a .Add b pos) (tOp (rAddD K) ta tb) (mOp addD ma mb) := by
  subst hK
  exact j_op op_addD r2_add ha hb
theorem j_sub (ha : JE X a ta ma) (hb : JE X b tb mb) : JE X (.BinOp a .Sub b pos) (tOp (rI0 fun i j => .int (i - j)) ta tb) (mOp subD ma mb) := j_op op_sub r2_sub ha hb
theorem j_mul (ha : JE X a ta ma) (hb : JE X b tb mb) : JE X (.BinOp a .Mult b pos) (tOp (rI CMul fun i j => .int (i * j)) ta tb) (mOp mulD ma mb) := j_op op_mul r2_mul ha hb
theorem j_fdiv (ha : JE X a ta ma) (hb : JE X b tb mb) : JE X (.BinOp a .FloorDiv b pos) (tOp (rI CDiv fun i j => .int (i / j)) ta tb) (mOp fdivD ma mb) := j_op op_fdiv r2_fdiv ha hb
theorem j_mod (ha : JE X a ta ma) (hb : JE X b tb mb) : JE X (.BinOp a .Mod b pos) (tOp (rI (fun _ j => 0 < j) fun i j => .int (i % j)) ta tb) (mOp modD ma mb) := j_op op_mod r2_mod ha hb
theorem j_pow (ha : JE X a ta ma) (hb : JE X b tb mb) : JE X (.BinOp a .Pow b pos) (tOp (rI CPow fun i j => .int (i ^ j.toNat)) ta tb) (mOp powD ma mb) := j_op op_pow r2_pow ha hb
theorem j_neg (ha : JE X a ta ma) : JE X (.UnaryOp .USub a pos) (tUn (rU fun i => .int (-i)) ta) (mUn negD ma) := ⟨pe_un un_neg ha.p, em_un r1_neg ha.m⟩
/-- comparisons: the rule of the operator with its meaning -/
structure CR (X : Cx) (op : CmpOp) (r : R2) (f : D → D → Option D) : Prop where
  o : OpR X (compareOp op) r
  m : R2M X.K r f
theorem room65 (hr : Room j X.A) (hj : 1 ≤ j) : X.A.units + 65 < cLine := by have := hr.un; omega
theorem c_eq (hr : Room j X.A) {K : PySem.W.Frag} (hK : X.K = K := by rfl) : CR X .Eq (rEqDD K) eqD := by
  subst hK
  exact ⟨op_eqDD hr.units, r2_eq⟩
theorem c_ne (hr : Room j X.A) {K : PySem.W.Frag} (hK : X.K = K := by rfl) : CR X .NotEq (rNeDD K) neD := by
  subst hK
  exact ⟨op_neDD hr.units, r2_ne⟩
theorem c_lt (hr : Room j X.A) {K : PySem.W.Frag} (hK : X.K = K := by rfl) : CR X .Lt (rOrd K (fun i j => decide (i < j)) (fun x y => decide (x < y)) HT.lexLt) ltD := by
  subst hK
  exact ⟨op_ltD hr.units0, r2_lt⟩
theorem c_le (hr : Room j X.A) {K : PySem.W.Frag} (hK : X.K = K := by rfl) : CR X .LtE (rOrd K (fun i j => decide (i ≤ j)) (fun x y => !decide (y < x)) lexLe) leD := by
  subst hK
  exact ⟨op_leD hr.units0, r2_le⟩
theorem c_gt : CR X .Gt (rI0 fun i j => .bl (decide (j < i))) gtD := ⟨op_gt, r2_gt⟩
theorem c_ge : CR X .GtE (rI0 fun i j => .bl (decide (j ≤ i))) geD := ⟨op_ge, r2_ge⟩
theorem c_is : CR X .Is (fun x y H Q => y = .non ∧ Q (.bl (decide (x = .non))) H) isND := ⟨op_isN, r2_isN⟩
theorem c_isnot : CR X .IsNot (fun x y H Q => y = .non ∧ Q (.bl (!decide (x = .non))) H) notND := ⟨op_notN, r2_notN⟩
theorem c_in (hr : Room (j + 1) X.A) {K : PySem.W.Frag} (hK : X.K = K := by rfl) : CR X .In (rMem K id) inD := by
  subst hK
  exact ⟨op_inDD (room65 hr (by omega)), r2_in⟩
theorem c_nin (hr : Room (j + 1) X.A) {K : PySem.W.Frag} (hK : X.K = K := by rfl) : CR X .NotIn (rMem K (!·)) ninD := by
  subst hK
  exact ⟨op_ninDD (room65 hr (by omega)), r2_nin⟩
theorem j_cmp {op : CmpOp} {r : R2} {f : D → D → Option D} (h : CR X op r f) (ha : JE X a ta ma) (hb : JE X b tb mb) (hm : behindInMarks op b = false := by first | exact nomark _ | rfl) : JE X (.Compare a [op] [b] pos) (tOp r ta tb) (mOp f ma mb) :=
  ⟨pe_cmpR h.o ha.p hb.p hm, em_op h.m ha.m hb.m⟩
theorem t_cmp {op : CmpOp} {r : R2} {f : D → D → Option D} (h : CR X op r f) (ha : JE X a ta ma) (hb : JE X b tb mb) (hm : behindInMarks op b = false := by first | exact nomark _ | rfl) : JT X (.Compare a [op] [b] pos) (tTest (tOp r ta tb)) (mTest (mOp f ma mb)) :=
  ⟨pt_cmpR h.o ha.p hb.p hm, tm_test (em_op h.m ha.m hb.m)⟩
theorem j_chain {op op' : CmpOp} {r r' : R2} {f g : D → D → Option D} (h : CR X op r f) (h' : CR X op' r' g) (ha : JE X a ta ma) (hb : JE X b tb mb) (hc : JE X c tc mc) (hm : lastMarks [op, op'] [b, c] = false := by with_unfolding_all rfl) :
    JE X (.Compare a [op, op'] [b, c] pos) (tChain r r' ta tb tc) (mChain f g ma mb mc) := ⟨pe_chain h.o h'.o ha.p hb.p hc.p hm, em_chain h.m h'.m ha.m hb.m hc.m⟩
theorem t_chain {op op' : CmpOp} {r r' : R2} {f g : D → D → Option D} (h : CR X op r f) (h' : CR X op' r' g) (ha : JE X a ta ma) (hb : JE X b tb mb) (hc : JE X c tc mc) (hm : lastMarks [op, op'] [b, c] = false := by with_unfolding_all rfl) :
    JT X (.Compare a [op, op'] [b, c] pos) (tTest (tChain r r' ta tb tc)) (mTest (mChain f g ma mb mc)) := ⟨pt_chain h.o h'.o ha.p hb.p hc.p hm, tm_test (em_chain h.m h'.m ha.m hb.m hc.m)⟩
/-! ### and, or, not, if -/
theorem j_one {op : BoolOp} (h : JE X a ta ma) : JE X (.BoolOp op [a] pos) ta ma := ⟨pe_one h.p, h.m⟩
theorem j_and {rest : List Expr} (ha : JE X a ta ma) (hb : JE X (.BoolOp .And (b :: rest) pos) tb mb) : JE X (.BoolOp .And (a :: b :: rest) pos) (tAndV ta tb) (mAndV ma mb) := ⟨pe_and ha.p hb.p, em_andV ha.m hb.m⟩
theorem j_or {rest : List Expr} (ha : JE X a ta ma) (hb : JE X (.BoolOp .Or (b :: rest) pos) tb mb) : JE X (.BoolOp .Or (a :: b :: rest) pos) (tOrV ta tb) (mOrV ma mb) := ⟨pe_or ha.p hb.p, em_orV ha.m hb.m⟩
theorem j_not (ha : JE X a ta ma) : JE X (.UnaryOp .Not a pos) (tNotV ta) (mNotV ma) := ⟨pe_not ha.p, em_notV ha.m⟩
theorem w_and1 (h : JT X a tt mt) : JW X (.BoolOp .And [a] pos) tt mt := ⟨pw_and1 h.p, h.m⟩
theorem w_or1 (h : JT X a tt mt) : JW X (.BoolOp .Or [a] pos) tt mt := ⟨pw_or1 h.p, h.m⟩
theorem w_and {rest : List Expr} (h : JT X a tt mt) (h2 : JW X (.BoolOp .And (b :: rest) pos) tu mu) : JW X (.BoolOp .And (a :: b :: rest) pos) (tAnd tt tu) (mAnd mt mu) := ⟨pw_and h.p h2.p, tm_and h.m h2.m⟩
theorem w_or {rest : List Expr} (h : JT X a tt mt) (h2 : JW X (.BoolOp .Or (b :: rest) pos) tu mu) : JW X (.BoolOp .Or (a :: b :: rest) pos) (tOr tt tu) (mOr mt mu) := ⟨pw_or h.p h2.p, tm_or h.m h2.m⟩
theorem t_w (h : JW X e tt mt) : JT X e tt mt := ⟨h.p.pt, h.m⟩
theorem t_not (h : JT X a tt mt) : JT X (.UnaryOp .Not a pos) (tNot tt) (mNot mt) := ⟨pt_not h.p, tm_not h.m⟩
theorem t_val (h : JE X e te me) (he : ∀ whole, isTrue e X.env whole = (do let v ← whole; standAt e.pos; holding [v] (truthy v)) := by intro _; rfl) : JT X e (tB te) (mTest me) := ⟨pt_val h.p he, tm_B h.m⟩
def tTru (K : PySem.W.Frag) (ta : TE) : TT := fun σ H Q => ta σ H fun x H' => ∃ k, TruV K x H' k ∧ Q k H'
def mTru (m : ME) : MT := fun ρ => (m ρ).bind truD
theorem t_tru (h : JE X e te me) (he : ∀ whole, isTrue e X.env whole = (do let v ← whole; standAt e.pos; holding [v] (truthy v)) := by intro _; rfl) {K : PySem.W.Frag} (hK : X.K = K := by rfl) : JT X e (tTru K te) (mTru me) := by
  subst hK
  refine ⟨pt_truth h.p he, fun ρ k q G0 H0 G H σ c Q z => ?_⟩
  obtain ⟨d, e1, q⟩ := Option.bind_eq_some_iff.mp q
  exact h.m ρ d e1 G0 H0 G H σ c _ fun v G' H' w r => ⟨k, tru_of w.s r q, z G' H' w⟩
theorem j_if (h : JT X c tt mt) (ha : JE X a ta ma) (hb : JE X b tb mb) : JE X (.IfExp c a b pos) (tIf tt ta tb) (mIf mt ma mb) := ⟨pe_ifExp h.p ha.p hb.p, em_if h.m ha.m hb.m⟩
/-! ### items, slices, displays -/
theorem j_ix (ha : JE X a ta ma) (hb : JE X b tb mb) (hs : PlainIx b := by exact fun _ _ => rfl) {K : PySem.W.Frag} (hK : X.K = K := by rfl) : JE X (.Subscript a b pos) (tOp (rIx K) ta tb) (mOp ixD ma mb) := by
  subst hK
  exact ⟨pe_ix ix_seq ha.p hb.p hs, em_op r2_ix ha.m hb.m⟩
theorem o_none : JO X none tNoPart mNoPart := ⟨po_none, om_none⟩
theorem o_some (h : JE X e te me) : JO X (some e) (tPart te) (mPart me) := ⟨po_some h.p, om_some h.m⟩
theorem j_sl {lo hi : Option Expr} {to th : TO} {mo mh : MO} (he : JE X e te me) (hl : JO X lo to mo) (hu : JO X hi th mh) {K : PySem.W.Frag} (hK : X.K = K := by rfl) : JE X (.Subscript e (.Slice lo hi none p2) pos) (tSl (rSlAny K) te to th) (mSl slD me mo mh) := by
  subst hK
  exact ⟨pe_slice sl_any he.p hl.p hu.p, em_sl rs_sl he.m hl.m hu.m⟩
theorem j_rev {q1 q2 q3 : Pos} (he : JE X e te me) {K : PySem.W.Frag} (hK : X.K = K := by rfl) : JE X (.Subscript e (.Slice none none (some (.UnaryOp .USub (.Constant (.int 1) k q1) q2)) q3) pos) (tRevL K te) (mRev me) := by
  subst hK
  exact ⟨pe_revL he.p, em_rev he.m⟩
theorem a_nil : JA X [] tNil mNil := ⟨pa_nil, am_nil⟩
theorem a_cons (h : JE X e te me) (hr : JA X es tl ml) (hs : starEach (e :: es) X.env = (false, eval e X.env) :: starEach es X.env := by rfl) : JA X (e :: es) (tCons te tl) (mCons me ml) := ⟨pa_cons h.p hr.p hs, am_cons h.m hr.m⟩
theorem f_lst (h : JA X es tl ml) : JF X (.List es pos) (tLst tl) (few ml) := ⟨pe_lst h.p, fm_lst h.m⟩
def mLst (m : MA) : ME := fun ρ => (m ρ).map .lst
theorem j_f {m : MA} (h : JF X e te m) : JE X e te (mLst m) := ⟨h.p, em_fresh h.m⟩
def mTup (m : MA) : ME := fun ρ => (few m ρ).map .tup
theorem j_tup {n : Nat} (h : JA X es tl ml) : JE X (.Tuple es n pos) (tTup tl) (mTup ml) := ⟨pe_tup h.p, em_tup h.m⟩
/-! ### calls of built-ins -/
structure BR (X : Cx) (f : Value) (r : List V → Hp → VK → Prop) (g : List D → Option D) : Prop where
  o : CallR X f r
  m : RCM X.K r g
theorem j_cb {id : String} {r : List V → Hp → VK → Prop} {f : List D → Option D} (h : BR X (.builtin id) r f) (hm : X.mg x = none) (ha : JA X (e :: es) tl ml) (hv : bootBuiltins x = some (.builtin id) := by decide +kernel) (hg : Gl X x := by rfl) (hn : x ≠ "__name__" := by decide) (hdb : (x == ("__debug__" : Str)) = false := by decide)
    (he : starEach (e :: es) X.env = (false, eval e X.env) :: starEach es X.env := by rfl) (hpl : (backTo pos (starEach es X.env)).any (·.1) = false := by rfl) : JE X (.Call (.Name x p2) (e :: es) [] pos) (tCB r tl) (mCall f ml) :=
  ⟨pe_callB h.o hg hm hv ha.p hn hdb he hpl, em_cb h.m ha.m⟩
theorem j_ct {id : String} {r : List V → Hp → VK → Prop} {f : List D → Option D} (h : BR X (.type id) r f) (hm : X.mg x = none) (ha : JA X (e :: es) tl ml) (hv : bootBuiltins x = some (.type id) := by decide +kernel) (hg : Gl X x := by rfl) (hn : x ≠ "__name__" := by decide) (hdb : (x == ("__debug__" : Str)) = false := by decide)
    (he : starEach (e :: es) X.env = (false, eval e X.env) :: starEach es X.env := by rfl) (hpl : (backTo pos (starEach es X.env)).any (·.1) = false := by rfl) : JE X (.Call (.Name x p2) (e :: es) [] pos) (tCB r tl) (mCall f ml) :=
  ⟨pe_callTy h.o hg hm hv ha.p hn hdb he hpl, em_cb h.m ha.m⟩
theorem b_len {K : PySem.W.Frag} (hK : X.K = K := by rfl) : BR X (.builtin "len") (fun xs H Q => ∃ x n, xs = [x] ∧ LenV K x H n ∧ Q (.int n) H) lenD := by
  subst hK
  exact ⟨call_len, rc_len⟩
theorem b_str : BR X (.type "str") (fun xs H Q => ∃ i, xs = [.int i] ∧ i.natAbs.log2 < 1920 ∧ Q (.str (toString i)) H) strD := ⟨call_str_int, rc_str⟩
theorem b_int : BR X (.type "int") rIntC intF := ⟨call_intD, rc_int⟩
theorem b_tuple {K : PySem.W.Frag} (hK : X.K = K := by rfl) : BR X (.type "tuple") (fun xs H Q => ∃ p ys, xs = [.ref p] ∧ ((SqL K H p ys ∧ ∀ l, H l = none → Q (.ref l) (upd H l (.tup ys))) ∨ (SqT K H p ys ∧ Q (.ref p) H))) tupleD := by
  subst hK
  exact ⟨call_tuple_of, rc_tuple⟩
theorem b_list {K : PySem.W.Frag} (hK : X.K = K := by rfl) : BR X (.type "list") (fun xs H Q => ∃ p ys, xs = [.ref p] ∧ (SqL K H p ys ∨ SqT K H p ys) ∧ ∀ l, H l = none → Q (.ref l) (upd H l (.lst ys))) listD := by
  subst hK
  exact ⟨call_list_of, rc_list⟩
theorem b_all (hc : X.calm = true := by rfl) {K : PySem.W.Frag} (hK : X.K = K := by rfl) : BR X (.builtin "all") (rAll K) allD := by
  subst hK
  exact ⟨cr_all hc, rc_all⟩
/-! ### methods of texts -/
structure MR (X : Cx) (T : String) (name : Str) (id : String) (r : V → List V → Hp → VK → Prop) (g : D → List D → Option D) : Prop where
  pa : PlainAttrs T
  slot : PySem.Slot T name id
  ty : typeOf (.builtin id) = pure (.type "method_descriptor")
  o : MtR X id r
  m : RMM X.K T r g
theorem j_bm {T id : String} {name : Str} {apos : Pos} {r : V → List V → Hp → VK → Prop} {f : D → List D → Option D} (h : MR X T name id r f) (ho : JE X o ta ma) (ha : JA X (e :: es) tl ml) (hbase : attributeBase o name X.env (eval o X.env) = eval o X.env := by rfl)
    (hfew : ((backTo pos (starEach (e :: es) X.env)).all (fun x => !x.1) && (backToKw pos (keywordEach [] X.env)).all (fun x => x.1.isSome)
      && decide ((e :: es).length + ([] : List Keyword).length + (if ([] : List Keyword).isEmpty then 0 else 1) < 30)) = true := by rfl)
    (hline : (apos.endLine == pos.line) = true := by rfl) (hs : starEach (e :: es) X.env = (false, eval e X.env) :: starEach es X.env := by rfl) (hplain : (backTo pos (starEach es X.env)).any (·.1) = false := by rfl) {K : PySem.W.Frag} (hK : X.K = K := by rfl) :
    JE X (.Call (.Attribute o name apos) (e :: es) [] pos) (tBM K T r ta tl) (mMeth f ma ml) := by
  subst hK
  exact ⟨pe_bm h.pa h.slot h.ty h.o ho.p ha.p hbase hfew hline hs hplain, em_bm h.m ho.m ha.m⟩
theorem m_split {K : PySem.W.Frag} (hK : X.K = K := by rfl) : MR X "str" "split" "str.split" (fun x xs H Q => ∃ a b, x = .str a ∧ xs = [.str b] ∧ (b.length == 0) = false ∧ a.length + 2 ≤ sizeLine ∧ rNewStrs (Txt.split a b) H Q) splitD := by
  subst hK
  exact ⟨PySem.F.plainAttrs_str, PySem.F.slot_str_split, PySem.F.type_str_split, mt_split, rm_split⟩
theorem m_join {K : PySem.W.Frag} (hK : X.K = K := by rfl) : MR X "str" "join" "str.join" (fun x xs H Q => ∃ a p, ∃ ys : List Str, x = .str a ∧ xs = [.ref p] ∧ (SqL K H p (ys.map V.str) ∨ SqT K H p (ys.map V.str)) ∧
    (ys.map (·.length)).sum + ys.length * a.length ≤ 16777216 ∧ Q (.str (Txt.join a ys)) H) joinD := by
  subst hK
  exact ⟨PySem.F.plainAttrs_str, PySem.F.slot_str_join, PySem.F.type_str_join, mt_join, rm_join⟩
/-! ### statements -/
variable {t u : TS} {m n : MS} {st : Stmt} {sts sts2 : List Stmt}
theorem b_nil : JB X W [] tNext mNext := ⟨pss_nil, sm_next⟩
theorem b_cons (h : JS X W st t m) (h2 : JB X W sts u n) : JB X W (st :: sts) (tSeq t u) (mSeq m n) := ⟨pss_cons h.p h2.p, sm_seq h.m h2.m⟩
theorem b_one (h : JS X W st t m) : JB X W [st] t m := ⟨pss_one h.p, h.m⟩
theorem b_frz (i : Nat) (h : JB X W sts t m) : JB X W sts t (fun ρ => m (frz i ρ)) := ⟨h.p, sm_frz h.m⟩
theorem s_frz (i : Nat) (h : JS X W st t m) : JS X W st t (fun ρ => m (frz i ρ)) := ⟨h.p, sm_frz h.m⟩
theorem s_set (i : Nat) {p' : Pos} (hN : X.N.Nodup) (he : JE X e te me) (hi : X.N[i]? = some x := by rfl) (hx : Loc X.env.scope x := by first | exact .inl rfl | exact .inr rfl) (hs : swapsWith e (some (.Name x p')) pos.line X.env = pure false := by rfl) (hf : X.fn x = true ∨ X.env.scope.names.lookup x = some .local := by first | exact .inl rfl | exact .inr rfl) :
    JS X W (.Assign [.Name x p'] e pos) (tAsg te (gName i)) (mAsg i me) := ⟨ps_set hN hi hx he.p hs hf, sm_asg he.m⟩
theorem s_setO (i : Nat) {p' : Pos} {m : MA} (hN : X.N.Nodup) (he : JF X e te m) (hi : X.N[i]? = some x := by rfl) (hx : Loc X.env.scope x := by first | exact .inl rfl | exact .inr rfl) (hs : swapsWith e (some (.Name x p')) pos.line X.env = pure false := by rfl) (hf : X.fn x = true ∨ X.env.scope.names.lookup x = some .local := by first | exact .inl rfl | exact .inr rfl) :
    JS X W (.Assign [.Name x p'] e pos) (tAsg te (gName i)) (mAsgO i m) := ⟨ps_set hN hi hx he.p hs hf, sm_asgO he.m⟩
theorem s_ret (he : JE X e te me) : JS X W (.Return (some e) pos) (tRet te) (mRet me) := ⟨ps_ret he.p, sm_ret he.m⟩
theorem s_retN : JS X W (.Return none pos) tRetN mRetN := ⟨ps_retN, sm_retN⟩
theorem s_if (hc : JT X c tt mt) (h1 : JB X W sts t m) (h2 : JB X W sts2 u n) : JS X W (.If c sts sts2 pos) (tIfS tt t u) (mIfS mt m n) := ⟨ps_if hc.p h1.p h2.p, sm_if hc.m h1.m h2.m⟩
theorem s_expr (he : JE X e te me) (hs : swapsWith e none pos.line X.env = pure false := by rfl) : JS X W (.Expr e pos) (tDrop te) (mDrop me) := ⟨ps_expr he.p hs, sm_drop he.m⟩
theorem s_break : JS X W (.Break pos) tBreak mBreak := ⟨ps_break, sm_break⟩
theorem s_cont : JS X W (.Continue pos) tCont mCont := ⟨ps_continue, sm_cont⟩
theorem s_app (i : Nat) {apos : Pos} (he : JE X e te me) (hN : X.N[i]? = some x := by rfl) (hv : Vis X.env.scope x := by first | exact Or.inl rfl | exact Or.inr (Or.inl rfl) | exact Or.inr (Or.inr rfl)) (hd : (x == ("__debug__" : Str)) = false := by decide)
    (hcd : (x == ("__classdict__" : Str)) = false := by decide) (hbase : attributeBase (.Name x p2) "append" X.env (eval (.Name x p2) X.env) = eval (.Name x p2) X.env := by rfl)
    (hfew : ((backTo pos (starEach [e] X.env)).all (fun x => !x.1) && (backToKw pos (keywordEach [] X.env)).all (fun x => x.1.isSome)
      && decide ([e].length + ([] : List Keyword).length + (if ([] : List Keyword).isEmpty then 0 else 1) < 30)) = true := by rfl)
    (hline : (apos.endLine == pos.line) = true := by rfl) (hst : starEach [e] X.env = (false, eval e X.env) :: starEach [] X.env := by rfl) (hplain : (backTo pos (starEach [] X.env)).any (·.1) = false := by rfl)
    (hs : swapsWith (.Call (.Attribute (.Name x p2) "append" apos) [e] [] pos) none p3.line X.env = pure false := by rfl) {K : PySem.W.Frag} (hK : X.K = K := by rfl) :
    JS X W (.Expr (.Call (.Attribute (.Name x p2) "append" apos) [e] [] pos) p3) (tDrop (tBM K "list" rAppend (tVar i) (tCons te tNil))) (mApp i me) := by
  subst hK
  exact ⟨ps_expr (pe_bm PySem.F.plainAttrs_list PySem.F.slot_list_append PySem.F.type_list_append mt_append (pe_var hN hv hd hcd) (pa_cons he.p pa_nil hst) hbase hfew hline hst hplain) hs, sm_app he.m⟩
theorem s_par (i j : Nat) {x y : Str} {px py pt : Pos} {kt k2 : Nat} {pt2 : Pos} (hN : X.N.Nodup) (ha : JA X [a, b] tl ml) (hw : swappedStores [.Tuple [.Name x px, .Name y py] kt pt] (.Tuple [a, b] k2 pt2) X.env = pure (some [x, y]) := by rfl) (hi : X.N[i]? = some x := by rfl) (hj : X.N[j]? = some y := by rfl) (hij : i ≠ j := by decide)
    (hx : X.env.scope.names.lookup x = some .local := by rfl) (hy : X.env.scope.names.lookup y = some .local := by rfl) (hc : X.calm = true := by rfl)
    (hs : swapsWithSole [.Tuple [.Name x px, .Name y py] kt pt] (.Tuple [a, b] k2 pt2) pos.line X.env = pure false := by rfl) :
    JS X W (.Assign [.Tuple [.Name x px, .Name y py] kt pt] (.Tuple [a, b] k2 pt2) pos) (tPar i j tl) (mPar i j ml) := ⟨ps_par hc hN hi hj hij hx hy ha.p hw hs, sm_par ha.m⟩
theorem s_augAdd (i : Nat) {p' : Pos} (hN : X.N.Nodup) (he : JE X e te me) (hi : X.N[i]? = some x := by rfl) (hx : Loc X.env.scope x := by first | exact .inl rfl | exact .inr rfl) (hf : X.fn x = true ∨ X.env.scope.names.lookup x = some .local := by first | exact .inl rfl | exact .inr rfl) :
    JS X W (.AugAssign (.Name x p') .Add e pos) (tAug i te (rI0 fun i j => .int (i + j))) (mAug i (int0D fun i j => .int (i + j)) me) := ⟨ps_aug hN hi hx he.p ip_add hf, sm_aug r2_int0 he.m⟩
/-- the def's own list read for a moment, the answer a flat value -/
theorem frz_cfg {K : PySem.W.Frag} {G0 H0 G H : Hp} {σ : L2.St} {ρ : DEnv} (i : Nat) (c : Cfg K G0 H0 G H σ ρ) : ∃ G', Cfg K G0 H0 G' H σ (frz i ρ) := by
  unfold frz
  split
  · rename_i ds hi
    obtain ⟨G', _, c'⟩ := c.frz hi
    exact ⟨G', c'⟩
  · exact ⟨G, c⟩
theorem t_brw (i : Nat) (h : JT X e tt mt) : JT X e tt (fun ρ => mt (frz i ρ)) := ⟨h.p, fun ρ b q G0 H0 G H σ c Q z => by
  obtain ⟨G', c'⟩ := frz_cfg i c
  exact h.m _ b q G0 H0 G' H σ c' Q fun G2 H2 w => z G H2 ⟨Ex.refl G, w.h, c.sub.trans w.h, fun _ _ h => h⟩⟩
def flatO (o : Option D) : Option D := o.bind fun d => match d with
  | .val v => some (.val v)
  | _ => none
theorem j_brw (i : Nat) (h : JE X e te me) : JE X e te (fun ρ => flatO (me (frz i ρ))) := ⟨h.p, fun ρ d q G0 H0 G H σ c Q z => by
  obtain ⟨d', e1, q⟩ := Option.bind_eq_some_iff.mp q
  obtain ⟨G', c'⟩ := frz_cfg i c
  split at q
  · cases q
    refine h.m _ _ e1 G0 H0 G' H σ c' Q fun v G2 H2 w r => z v G H2 ⟨Ex.refl G, w.h, c.sub.trans w.h, fun _ _ h => h⟩ ?_
    cases rp_val r
    exact .val _
  · cases q⟩
/-! ### targets, what is walked, loops -/
theorem g_name (i : Nat) (hN : X.N.Nodup) (hi : X.N[i]? = some x := by rfl) (hx : Loc X.env.scope x := by first | exact .inl rfl | exact .inr rfl) (hf : X.fn x = true ∨ X.env.scope.names.lookup x = some .local := by first | exact .inl rfl | exact .inr rfl) : JG X (.Name x pos) (gName i) [i] (gN i) := ⟨pg_name hN hi hx hf, gm_name⟩
theorem gs_nil : JGs X [] gNil [] := ⟨pgs_nil, gsm_nil⟩
theorem gs_cons (i : Nat) {g : TGs} {js : List Nat} (hN : X.N.Nodup) (h : JGs X es g js) (hi : X.N[i]? = some x := by rfl) (hx : Loc X.env.scope x := by first | exact .inl rfl | exact .inr rfl) (hf : X.fn x = true ∨ X.env.scope.names.lookup x = some .local := by first | exact .inl rfl | exact .inr rfl)
    (hs : (assignEach (.Name x pos :: es) X.env).map (·.2) = assign (.Name x pos) X.env :: (assignEach es X.env).map (·.2) := by rfl) : JGs X (.Name x pos :: es) (gCons (gName i) g) (i :: js) := ⟨pgs_cons (pg_name hN hi hx hf) h.p hs, gsm_cons h.m⟩
theorem g_tup {g : TGs} {js : List Nat} {k : Nat} (h : JGs X es g js) (hn : (assignEach es X.env).length = js.length := by rfl) (hst : (assignEach es X.env).findIdx? (·.1) = none := by rfl) (hc : X.calm = true := by rfl) {K : PySem.W.Frag} (hK : X.K = K := by rfl) : JG X (.Tuple es k pos) (gTup K js.length g) js (gT js) := by
  subst hK
  exact ⟨pg_tup hc h.p hn hst, gm_tup h.m rfl⟩
theorem s_asgG {tg : Expr} {g : TG} {js : List Nat} {f : D → DEnv → Option DEnv} (hg : JG X tg g js f) (he : JE X e te me) (hs : swapsWithSole [tg] e pos.line X.env = pure false := by rfl) (hw : swappedStores [tg] e X.env = pure none := by rfl)
    (h1 : (assignEach [tg] X.env).map (·.2) = [assign tg X.env] := by rfl) : JS X W (.Assign [tg] e pos) (tAsg te g) (mAsgG f me) := ⟨ps_asg he.p hg.p hs hw h1, sm_asgG hg.m he.m⟩
theorem pi_or {tg it : Expr} {w w' : TI} (h : PI X tg it w) (h' : PI X tg it w') : PI X tg it (fun σ H R => w σ H R ∨ w' σ H R) :=
  ⟨fun pins s σ H R I q => q.elim (h.run pins s σ H R I) (h'.run pins s σ H R I)⟩
theorem i_any {tg : Expr} (he : JE X e te me) {K : PySem.W.Frag} (hK : X.K = K := by rfl) : JI X tg e (iAny K te) (mItems me) := by
  subst hK
  exact ⟨pi_or (pi_list he.p) (pi_or (pi_tup he.p) (pi_str he.p)), im_any he.m⟩
theorem i_range1 {tg : Expr} (hm : X.mg "range" = none) (ha : JA X [a] tl ml) (hg : Gl X "range" := by rfl) (hs : starEach [a] X.env = [(false, eval a X.env)] := by rfl) : JI X tg (.Call (.Name "range" p2) [a] [] pos) (iRng1 tl) (mRange1 ml) := by
  refine ⟨pi_range1 hg hm ha.p hs, fun ρ ds q G0 H0 G H σ c R z => ?_⟩
  obtain ⟨es, e1, q⟩ := Option.bind_eq_some_iff.mp q
  split at q
  · split at q
    · rename_i n hn
      cases q
      refine ha.m ρ _ e1 G0 H0 G H σ c _ fun vs G' H' w r => ?_
      obtain ⟨v, rfl, r0⟩ := rps_one r
      cases rp_val r0
      exact ⟨_, rfl, hn.1, hn.2, z _ G' H' w walk_rangeD⟩
    · cases q
  · cases q
theorem i_range2 {tg : Expr} (hm : X.mg "range" = none) (ha : JA X [a, b] tl ml) (hg : Gl X "range" := by rfl) (hs : starEach [a, b] X.env = [(false, eval a X.env), (false, eval b X.env)] := by rfl) (hs2 : starEach [b] X.env = [(false, eval b X.env)] := by rfl) : JI X tg (.Call (.Name "range" p2) [a, b] [] pos) (iRng2 tl) (mRange2 ml) := by
  refine ⟨pi_range2 hg hm ha.p hs hs2, fun ρ ds q G0 H0 G H σ c R z => ?_⟩
  obtain ⟨es, e1, q⟩ := Option.bind_eq_some_iff.mp q
  split at q
  · split at q
    · rename_i hn
      cases q
      refine ha.m ρ _ e1 G0 H0 G H σ c _ fun vs G' H' w r => ?_
      obtain ⟨v, v2, rfl, r0, r1⟩ := rps_two r
      cases rp_val r0
      cases rp_val r1
      exact ⟨_, _, rfl, ⟨hn.1.1, hn.1.2, hn.2.1, hn.2.2⟩, z _ G' H' w walk_rangeD⟩
    · cases q
  · cases q
def mZip (m : MA) : MA := fun ρ => (m ρ).bind fun ds => match ds with
  | [.lst as, .lst bs] => some (zipD as bs)
  | _ => none
theorem i_zip {elts : List Expr} {kk : Nat} {tpos : Pos} (hm : X.mg "zip" = none) (ha : JA X [a, b] tl ml) (hg : Gl X "zip" := by rfl) (hs : starEach [a, b] X.env = (false, eval a X.env) :: starEach [b] X.env := by rfl) (hpl : (backTo pos (starEach [b] X.env)).any (·.1) = false := by rfl) {K : PySem.W.Frag} (hK : X.K = K := by rfl) :
    JI X (.Tuple elts kk tpos) (.Call (.Name "zip" p2) [a, b] [] pos) (iZip K tl) (mZip ml) := by
  subst hK
  refine ⟨pi_zip hg hm ha.p hs hpl, fun ρ ds q G0 H0 G H σ c R z => ?_⟩
  obtain ⟨es, e1, q⟩ := Option.bind_eq_some_iff.mp q
  split at q
  · cases q
    refine ha.m ρ _ e1 G0 H0 G H σ c _ fun vs G' H' w r => ?_
    obtain ⟨v, v2, rfl, r0, r1⟩ := rps_two r
    obtain ⟨q1, us, rfl, h1, s1⟩ := rp_lst r0
    obtain ⟨q2, us2, rfl, h2, s2⟩ := rp_lst r1
    exact ⟨q1, q2, us, us2, rfl, ex_l w.s h1, ex_l w.s h2, z _ G' H' w (walk_zipD h1 h2 s1 s2)⟩
  · cases q
def mEnum (m : MA) : MA := fun ρ => (m ρ).bind fun ds => match ds with
  | [.lst as] => some (enumD as)
  | _ => none
theorem i_enum {elts : List Expr} {kk : Nat} {tpos : Pos} (hm : X.mg "enumerate" = none) (ha : JA X [a] tl ml) (hg : Gl X "enumerate" := by rfl) (hs : starEach [a] X.env = [(false, eval a X.env)] := by rfl) {K : PySem.W.Frag} (hK : X.K = K := by rfl) :
    JI X (.Tuple elts kk tpos) (.Call (.Name "enumerate" p2) [a] [] pos) (iEnum K tl) (mEnum ml) := by
  subst hK
  refine ⟨pi_enum hg hm ha.p hs, fun ρ ds q G0 H0 G H σ c R z => ?_⟩
  obtain ⟨es, e1, q⟩ := Option.bind_eq_some_iff.mp q
  split at q
  · cases q
    refine ha.m ρ _ e1 G0 H0 G H σ c _ fun vs G' H' w r => ?_
    obtain ⟨v, rfl, r0⟩ := rps_one r
    obtain ⟨q1, us, rfl, h1, s1⟩ := rp_lst r0
    exact ⟨q1, us, rfl, ex_l w.s h1, z _ G' H' w (walk_enumD h1 s1)⟩
  · cases q
theorem s_for {tg it : Expr} {wi : TI} {mi : MA} {g : TG} {js : List Nat} {f : D → DEnv → Option DEnv} (hp : PassesOwn (model X.prog X.w) X.A X.env X.xe) (hi : JI X tg it wi mi) (hg : JG X tg g js f) (hb : JB X W sts t m) (hc : X.calm = true := by rfl)
    (hs : ∀ x, foldedSetIterable it X.env x = pure x := by intro _; rfl) : JS X W (.For tg it sts [] pos) (tFor wi g t) (mFor mi f m) := ⟨ps_for hp hc hi.p hg.p hb.p hs, sm_for hi.m hg.m hb.m⟩
theorem s_while (n : Nat) (hp : PassesOwn (model X.prog X.w) X.A X.env X.xe) (hc : JT X c tt mt) (hb : JB X W sts t m) : JS X W (.While c sts [] pos) (tWhile tt t) (whileN mt m n) := ⟨ps_while hp hc.p hb.p, sm_while hc.m hb.m⟩
theorem ts_nil : JTs X [] tYes mYes := ⟨pts_nil, tm_yes⟩
theorem ts_one (h : JT X c tt mt) : JTs X [c] tt mt := ⟨pts_one h.p, h.m⟩
/-! ### comprehensions -/
theorem f_lc {elt tg it : Expr} {ifs : List Expr} {scope : Scope} {own : List (Str × Nat)} {wi : TI} {mi : MA} {g : TG} {js : List Nat} {f : D → DEnv → Option DEnv} (hN : X.N.Nodup) (hi : JI X tg it wi mi) (ok : BlkOk X.N X.env.scope scope own)
    (hg : ∀ (s : Shared) (H : Hp) (C : Addr) (cl : List (Str × Addr)) (fp : List Addr), JG (X.blk s H scope (compEnvC scope cl C X.env) fp) tg g js f) (ht : ∀ (s : Shared) (H : Hp) (C : Addr) (cl : List (Str × Addr)) (fp : List Addr), JTs (X.blk s H scope (compEnvC scope cl C X.env) fp) ifs tt mt)
    (he : ∀ (s : Shared) (H : Hp) (C : Addr) (cl : List (Str × Addr)) (fp : List Addr), JE (X.blk s H scope (compEnvC scope cl C X.env) fp) elt te me) (hj : ∀ j ∈ js, j ∈ own.map (·.2) := by decide) (hc : X.calm = true := by rfl) (hs : ∀ x, foldedSetIterable it X.env x = pure x := by intro _; rfl) :
    JF X (.ListComp elt [⟨tg, it, ifs, 0⟩] scope pos) (tLc wi g tt te (own.map (·.2))) (mLc mi f mt me (own.map (·.2))) :=
  ⟨pe_lc hc hN hi.p ok (fun s H C cl fp => (hg s H C cl fp).p) (fun s H C cl fp => (ht s H C cl fp).p) (fun s H C cl fp => (he s H C cl fp).p) hs,
    fm_lc hi.m (hg X.s_0 X.H_0 0 [] []).m hj (ht X.s_0 X.H_0 0 [] []).m (he X.s_0 X.H_0 0 [] []).m⟩
/-- name = [..] on one line -/
theorem s_setLc (i : Nat) {y : Str} {py spos : Pos} {elt tg it : Expr} {ifs : List Expr} {scope : Scope} {own : List (Str × Nat)} {wi : TI} {mi : MA} {g : TG} {js : List Nat} {f : D → DEnv → Option DEnv} (hN : X.N.Nodup) (hi : JI X tg it wi mi) (ok : BlkOk X.N X.env.scope scope own)
    (hg : ∀ (s : Shared) (H : Hp) (C : Addr) (cl : List (Str × Addr)) (fp : List Addr), JG (X.blk s H scope (compEnvC scope cl C X.env) fp) tg g js f) (ht : ∀ (s : Shared) (H : Hp) (C : Addr) (cl : List (Str × Addr)) (fp : List Addr), JTs (X.blk s H scope (compEnvC scope cl C X.env) fp) ifs tt mt)
    (he : ∀ (s : Shared) (H : Hp) (C : Addr) (cl : List (Str × Addr)) (fp : List Addr), JE (X.blk s H scope (compEnvC scope cl C X.env) fp) elt te me) (hj : ∀ j ∈ js, j ∈ own.map (·.2) := by decide) (hc : X.calm = true := by rfl) (hs : ∀ x, foldedSetIterable it X.env x = pure x := by intro _; rfl)
    (hy : X.N[i]? = some y := by rfl) (hyl : X.env.scope.names.lookup y = some .local := by rfl)
    (hsw : swapsWith (.ListComp elt [⟨tg, it, ifs, 0⟩] scope pos) (some (.Name y py)) spos.line X.env = pure true := by exact sw_true rfl rfl rfl (by decide +kernel)) :
    JS X W (.Assign [.Name y py] (.ListComp elt [⟨tg, it, ifs, 0⟩] scope pos) spos) (tAsg (tLc wi g tt te (own.map (·.2))) (gName i)) (mAsg i (mLst (mLc mi f mt me (own.map (·.2))))) :=
  ⟨ps_setLc hc hN hy hyl hsw hi.p ok (fun s H C cl fp => (hg s H C cl fp).p) (fun s H C cl fp => (ht s H C cl fp).p) (fun s H C cl fp => (he s H C cl fp).p) hs,
    sm_asg (em_fresh (fm_lc hi.m (hg X.s_0 X.H_0 0 [] []).m hj (ht X.s_0 X.H_0 0 [] []).m (he X.s_0 X.H_0 0 [] []).m))⟩
end

/-! ### a def's promise over data -/
def spD (K : PySem.W.Frag) (n : Nat) (F : List D → Option D) : Sp := fun vs H Q _ => ∃ G ds d, vs.length = n ∧ Ex G H ∧ Rps K G vs ds ∧ F ds = some d ∧ ∀ v G' H', Wd G H G' H' → Rp K G' v d → Q v H'
structure FnD (P : Program) (w : World) (K : PySem.W.Frag) (mg : Str → Option Value) (base : Heap) (f : Addr) (x : Str) (k n : Nat) (F : List D → Option D) : Prop where
  g : mg x = some (.ref f)
  kp : PySem.W.keepIn K (.ref f) = true
  ok : ∃ fd ps, Binds K fd ps [] ∧ FnOk P w K mg base CX0 k f fd ps (spD K n F)
  ar : ∀ ds d, F ds = some d → ds.length = n
def startD (N : List Str) (ds : List D) : DEnv := ds.map .pu ++ List.replicate (N.length - ds.length) .un
def runF (N : List Str) (n : Nat) (m : MS) (ds : List D) : Option D := if ds.length = n then match m (startD N ds) with
    | some (.rt d) => some d
    | some (.nx _) => some .non
    | _ => none
  else none
theorem cfg_start {K : PySem.W.Frag} {N : List Str} {vs : List V} {ds : List D} {G H : Hp} (e : Ex G H) (r : Rps K G vs ds) : Cfg K G H G H (L2.start N vs) (startD N ds) := by
  have l := r.length
  refine ⟨⟨Ex.refl _, Ex.refl _, e, fun _ _ h => h⟩, by simp [L2.start, startD, l], fun i x h => ?_, fun i j ei ej a _ qi _ oi _ => ?_⟩
  · unfold startD at h
    by_cases hi : i < ds.length
    · rw [List.getElem?_append_left (by simpa using hi), List.getElem?_map] at h
      obtain ⟨d, hd, rfl⟩ := Option.map_eq_some_iff.mp h
      obtain ⟨v, hv, rv⟩ := r.get hd
      refine ⟨v, ?_, rv⟩
      unfold L2.start
      rw [List.getElem?_append_left (by simpa [l] using hi), List.getElem?_map, hv]
      rfl
    · rw [List.getElem?_append_right (by simpa using hi)] at h
      have := List.eq_of_mem_replicate (List.mem_of_getElem? h)
      subst this
      trivial
  · unfold startD at qi
    by_cases hi : i < ds.length
    · rw [List.getElem?_append_left (by simpa using hi), List.getElem?_map] at qi
      obtain ⟨d, hd, rfl⟩ := Option.map_eq_some_iff.mp qi
      cases oi
    · rw [List.getElem?_append_right (by simpa using hi)] at qi
      have := List.eq_of_mem_replicate (List.mem_of_getElem? qi)
      subst this
      cases oi
section
variable {P : Program} {w : World} {K : PySem.W.Frag} {mg : Str → Option Value} {base : Heap}
def W0 : WX := fun _ _ _ _ => False
theorem fnD_of {x qual : Str} {st : Stmt} {f : Addr} {fd : FuncData} {N ps : List Str} {k n : Nat} {m : MS} (F : Fun K x qual st f fd) (S : FnScope N ps (defScope st)) (hb : Binds K fd ps []) (hg : mg x = some (.ref f)) (hn : ps.length = n)
    (body : ∀ (cdv : Value) (A : Around) (outer : List Env) (s : Shared) (H : Hp) (E : XK), Room k (A.deeper (envOfC qual (defScope st) s.heap.objs.size f cdv)) →
      ∃ t, JB (cxOf CX0 P w K mg base N qual (defScope st) f cdv A outer s H E).nox W0 (defBody st) t m) : FnD P w K mg base f x (k + 1) n (runF N n m) := by
  refine ⟨hg, F.kp, ⟨fd, ps, hb, F.ok S (fun vs H Q E h => ?_) fun cdv A outer s H vs Q E hr h => ?_⟩, fun ds d h => ?_⟩
  · obtain ⟨_, _, _, h1, _⟩ := h
    rw [h1, hn]
  · obtain ⟨t, j⟩ := body cdv A outer s H E hr
    refine ⟨t, j.p, ?_⟩
    obtain ⟨G, ds, d, h1, e, r, h2, q⟩ := h
    unfold runF at h2
    split at h2
    · split at h2
      · rename_i d' hm
        cases h2
        exact j.m _ _ hm G H G H _ _ (cfg_start e r) fun v G' H' wd rv => q v G' H' wd rv
      · rename_i ρ' hm
        cases h2
        exact j.m _ _ hm G H G H _ _ (cfg_start e r) fun G' H' σ' _ c' => q .non G' H' c'.wd0 (.val _)
      · cases h2
    · cases h2
  · unfold runF at h
    split at h
    · assumption
    · cases h
/-- another function that agrees -/
theorem FnD.imp {f : Addr} {x : Str} {k n : Nat} {F F' : List D → Option D} (h : FnD P w K mg base f x k n F) (hi : ∀ ds d, F' ds = some d → F ds = some d) : FnD P w K mg base f x k n F' := by
  obtain ⟨fd, ps, hb, ok⟩ := h.ok
  refine ⟨h.g, h.kp, ⟨fd, ps, hb, ok.imp fun vs H Q E q => ?_⟩, fun ds d e => h.ar ds d (hi ds d e)⟩
  obtain ⟨G, ds, d, h1, e, r, h2, q⟩ := q
  exact ⟨G, ds, d, h1, e, r, hi ds d h2, q⟩
theorem FnD.mono {f : Addr} {x : Str} {k j n : Nat} {F : List D → Option D} (h : FnD P w K mg base f x k n F) (hj : k ≤ j) : FnD P w K mg base f x j n F := by
  obtain ⟨fd, ps, hb, ok⟩ := h.ok
  exact ⟨h.g, h.kp, ⟨fd, ps, hb, ok.mono hj⟩, h.ar⟩
end
section
variable {X : Cx} {e : Expr} {es : List Expr} {tl : TA} {ml : MA} {pos p2 : Pos} {x : Str}
theorem j_call {f : Addr} {k j n : Nat} {F : List D → Option D} (T : FnD X.prog X.w X.K X.mg X.base f x k n F) (hr : Room j X.A) (ha : JA X (e :: es) tl ml) (hk : k ≤ j := by decide) (hg : Gl X x := by rfl) (hdb : (x == ("__debug__" : Str)) = false := by decide)
    (he : starEach (e :: es) X.env = (false, eval e X.env) :: starEach es X.env := by rfl) (hpl : (backTo pos (starEach es X.env)).any (·.1) = false := by rfl) {K : PySem.W.Frag} (hK : X.K = K := by rfl) :
    JE X (.Call (.Name x p2) (e :: es) [] pos) (tCall (spD K n F) [] E0 tl) (mCall F ml) := by
  subst hK
  obtain ⟨fd, ps, hb, ok⟩ := T.ok
  refine ⟨pe_call ok (hr.mono hk) hg T.g T.kp hb .nil pass0 ha.p hdb he hpl, fun ρ d q G0 H0 G H σ c Q z => ?_⟩
  obtain ⟨ds, e1, q⟩ := Option.bind_eq_some_iff.mp q
  refine ha.m ρ ds e1 G0 H0 G H σ c _ fun vs G1 H1 w1 r1 => ⟨G1, ds, d, ?_, w1.s, by rw [List.append_nil]; exact r1, q, fun v G2 H2 w2 r2 => z v G2 H2 (w1.trans w2) r2⟩
  rw [List.append_nil, r1.length]
  exact T.ar ds d q
end
end DD

set_option Elab.async false
set_option linter.all false
set_option maxRecDepth 100000
set_option maxHeartbeats 4000000
/-! DD7: defs that raise own errors with one field; raise; calls of such defs. -/
namespace DD
open PySem PySem.Spec PyProof.Rows L2 Evl

inductive Res where
  | ok (d : D) | ex (C : Addr) (f : Str) (x : D)
def PostX (K : PySem.W.Frag) (G H : Hp) (Q : VK) (E : XK) : Res → Prop
  | .ok d => ∀ v G' H', Wd G H G' H' → Rp K G' v d → Q v H'
  | .ex C f x => ∀ (a : Addr) (v : V) G' H', Wd G H G' H' → Rp K G' v x → H' a = some (.xd [(f, v)]) → E (.ref C) (some a) H'
def EvX (K : PySem.W.Frag) (W : WX) (te : TE) (ρ : DEnv) (r : Res) : Prop := ∀ G0 H0 G H σ, Cfg K G0 H0 G H σ ρ → ∀ Q : VK, PostX K G H Q (fun c d H' => W c d σ H') r → te σ H Q
abbrev MX := DEnv → Option Res
def XM (K : PySem.W.Frag) (W : WX) (te : TE) (m : MX) : Prop := ∀ ρ r, m ρ = some r → EvX K W te ρ r
structure JX (X : Cx) (W : WX) (e : Expr) (t : TE) (m : MX) : Prop where
  p : PE X e t
  m : XM X.K W t m
def spX (K : PySem.W.Frag) (n : Nat) (F : List D → Option Res) : Sp := fun vs H Q E => ∃ G ds r, vs.length = n ∧ Ex G H ∧ Rps K G vs ds ∧ F ds = some r ∧ PostX K G H Q E r
structure FnX (P : Program) (w : World) (K : PySem.W.Frag) (mg : Str → Option Value) (base : Heap) (f : Addr) (x : Str) (k n : Nat) (F : List D → Option Res) : Prop where
  g : mg x = some (.ref f)
  kp : PySem.W.keepIn K (.ref f) = true
  ok : ∃ fd ps, Binds K fd ps [] ∧ FnOk P w K mg base (L2.CX P w) k f fd ps (spX K n F)
  ar : ∀ ds d, F ds = some d → ds.length = n
def runX (N : List Str) (n : Nat) (m : MS) (ds : List D) : Option Res := if ds.length = n then match m (startD N ds) with
    | some (.rt d) => some (.ok d)
    | some (.nx _) => some (.ok .non)
    | some (.ex C f x _) => some (.ex C f x)
    | _ => none
  else none
def WD (E : XK) : WX := fun c d _ H => E c d H
section
variable {P : Program} {w : World} {K : PySem.W.Frag} {mg : Str → Option Value} {base : Heap}
theorem fnX_of {x qual : Str} {st : Stmt} {f : Addr} {fd : FuncData} {N ps : List Str} {k n : Nat} {m : MS} (F : Fun K x qual st f fd) (S : FnScope N ps (defScope st)) (hb : Binds K fd ps []) (hg : mg x = some (.ref f)) (hn : ps.length = n)
    (body : ∀ (cdv : Value) (A : Around) (outer : List Env) (s : Shared) (H : Hp) (E : XK), Room k (A.deeper (envOfC qual (defScope st) s.heap.objs.size f cdv)) →
      ∃ t, JB (cxOf (L2.CX P w) P w K mg base N qual (defScope st) f cdv A outer s H E) (WD E) (defBody st) t m) : FnX P w K mg base f x (k + 1) n (runX N n m) := by
  refine ⟨hg, F.kp, ⟨fd, ps, hb, F.okX S (fun vs H Q E h => ?_) fun cdv A outer s H vs Q E hr h => ?_⟩, fun ds d h => ?_⟩
  · obtain ⟨_, _, _, h1, _⟩ := h
    rw [h1, hn]
  · obtain ⟨t, j⟩ := body cdv A outer s H E hr
    refine ⟨t, j.p, ?_⟩
    obtain ⟨G, ds, r, h1, e, rr, h2, q⟩ := h
    unfold runX at h2
    split at h2
    · split at h2
      · rename_i d' hm
        cases h2
        exact j.m _ _ hm G H G H _ _ (cfg_start e rr) fun v G' H' wd rv => q v G' H' wd rv
      · rename_i ρ' hm
        cases h2
        exact j.m _ _ hm G H G H _ _ (cfg_start e rr) fun G' H' σ' _ c' => q .non G' H' c'.wd0 (.val _)
      · rename_i C fl xx ρ' hm
        cases h2
        exact j.m _ _ hm G H G H _ _ (cfg_start e rr) fun a v G' H' σ' _ c' rx hx => q a v G' H' c'.wd0 rx hx
      · cases h2
    · cases h2
  · unfold runX at h
    split at h
    · assumption
    · cases h
theorem FnX.imp {f : Addr} {x : Str} {k n : Nat} {F F' : List D → Option Res} (h : FnX P w K mg base f x k n F) (hi : ∀ ds d, F' ds = some d → F ds = some d) : FnX P w K mg base f x k n F' := by
  obtain ⟨fd, ps, hb, ok⟩ := h.ok
  refine ⟨h.g, h.kp, ⟨fd, ps, hb, ok.imp fun vs H Q E q => ?_⟩, fun ds d e => h.ar ds d (hi ds d e)⟩
  obtain ⟨G, ds, d, h1, e, r, h2, q⟩ := q
  exact ⟨G, ds, d, h1, e, r, hi ds d h2, q⟩
end
section
variable {X : Cx} {W : WX} {c e : Expr} {es : List Expr} {te ta tb : TE} {me : ME} {tl : TA} {ml : MA} {tt : TT} {mt : MT} {pos p2 : Pos} {x : Str} {ma mb mx : MX}
def mOk (m : ME) : MX := fun ρ => (m ρ).map .ok
theorem x_of (h : JE X e te me) : JX X W e te (mOk me) := ⟨h.p, fun ρ r q G0 H0 G H σ c Q z => by
  obtain ⟨d, e1, rfl⟩ := Option.map_eq_some_iff.mp q
  exact h.m ρ d e1 G0 H0 G H σ c Q z⟩
def mCallX (F : List D → Option Res) (m : MA) : MX := fun ρ => (m ρ).bind F
theorem x_call {f : Addr} {k j n : Nat} {F : List D → Option Res} (T : FnX X.prog X.w X.K X.mg X.base f x k n F) (hr : Room j X.A) (tk : Takes X W) (ha : JA X (e :: es) tl ml) (hk : k ≤ j := by decide) (hg : Gl X x := by rfl) (hdb : (x == ("__debug__" : Str)) = false := by decide)
    (he : starEach (e :: es) X.env = (false, eval e X.env) :: starEach es X.env := by rfl) (hpl : (backTo pos (starEach es X.env)).any (·.1) = false := by rfl) {K : PySem.W.Frag} (hK : X.K = K := by rfl) :
    JX X W (.Call (.Name x p2) (e :: es) [] pos) (tCallS (spX K n F) (WE W) tl) (mCallX F ml) := by
  subst hK
  obtain ⟨fd, ps, hb, ok⟩ := T.ok
  refine ⟨pe_callS ok (hr.mono hk) hg T.g T.kp hb (fun σ => passAt tk σ) ha.p hdb he hpl, fun ρ r q G0 H0 G H σ c Q z => ?_⟩
  obtain ⟨ds, e1, q⟩ := Option.bind_eq_some_iff.mp q
  refine ha.m ρ ds e1 G0 H0 G H σ c _ fun vs G1 H1 w1 r1 => ⟨G1, ds, r, ?_, w1.s, r1, q, ?_⟩
  · rw [r1.length]
    exact T.ar ds r q
  · cases r with
    | ok d => exact fun v G2 H2 w2 r2 => z v G2 H2 (w1.trans w2) r2
    | ex C fl xx => exact fun a v G2 H2 w2 r2 => z a v G2 H2 (w1.trans w2) r2
def mIfX (t : MT) (a b : MX) : MX := fun ρ => (t ρ).bind fun x => if x = true then a ρ else b ρ
theorem PostX.mono {K : PySem.W.Frag} {G H G1 H1 : Hp} {Q : VK} {E : XK} {r : Res} (w : Wd G H G1 H1) (p : PostX K G H Q E r) : PostX K G1 H1 Q E r := by
  cases r with
  | ok d => exact fun v G2 H2 w2 r2 => p v G2 H2 (w.trans w2) r2
  | ex C fl xx => exact fun a v G2 H2 w2 r2 => p a v G2 H2 (w.trans w2) r2
theorem x_if {a b : Expr} (h : JT X c tt mt) (ha : JX X W a ta ma) (hb : JX X W b tb mb) : JX X W (.IfExp c a b pos) (tIf tt ta tb) (mIfX mt ma mb) := ⟨pe_ifExp h.p ha.p hb.p, fun ρ r q G0 H0 G H σ cf Q z => by
  obtain ⟨y, e1, q⟩ := Option.bind_eq_some_iff.mp q
  refine h.m ρ y e1 G0 H0 G H σ cf _ fun G1 H1 w => ?_
  cases y with
  | true => exact iteT (ha.m ρ r q G0 H0 G1 H1 σ (cf.mono w) Q (z.mono w))
  | false => exact iteF (hb.m ρ r q G0 H0 G1 H1 σ (cf.mono w) Q (z.mono w))⟩
def mRetX (m : MX) : MS := fun ρ => (m ρ).map fun r => match r with
  | .ok d => .rt d
  | .ex C f x => .ex C f x ρ
theorem s_retX (h : JX X W e te mx) : JS X W (.Return (some e) pos) (tRet te) (mRetX mx) := ⟨ps_ret h.p, fun ρ o q G0 H0 G H σ E c p => by
  obtain ⟨r, e1, rfl⟩ := Option.map_eq_some_iff.mp q
  refine h.m ρ r e1 G0 H0 G H σ c _ ?_
  cases r with
  | ok d => exact fun v G' H' w r => p v G' H' (c.wd0.trans w) r
  | ex C f x => exact fun a v G' H' w r hx => p a v G' H' σ w.g (c.mono w) r hx⟩
def mAsgX (i : Nat) (m : MX) : MS := fun ρ => (m ρ).map fun r => match r with
  | .ok d => .nx (ρ.set i (.pu d))
  | .ex C f x => .ex C f x ρ
theorem s_setX (i : Nat) {p' : Pos} (hN : X.N.Nodup) (he : JX X W e te mx) (hi : X.N[i]? = some x := by rfl) (hx : Loc X.env.scope x := by first | exact .inl rfl | exact .inr rfl) (hs : swapsWith e (some (.Name x p')) pos.line X.env = pure false := by rfl) (hf : X.fn x = true ∨ X.env.scope.names.lookup x = some .local := by first | exact .inl rfl | exact .inr rfl) :
    JS X W (.Assign [.Name x p'] e pos) (tAsg te (gName i)) (mAsgX i mx) := ⟨ps_set hN hi hx he.p hs hf, fun ρ o q G0 H0 G H σ E c p => by
  obtain ⟨r, e1, rfl⟩ := Option.map_eq_some_iff.mp q
  refine he.m ρ r e1 G0 H0 G H σ c _ ?_
  cases r with
  | ok d => exact fun v G' H' w r => p G' H' _ w.g ((c.mono w).set r)
  | ex C f x => exact fun a v G' H' w r hx => p a v G' H' σ w.g (c.mono w) r hx⟩
def mDropX (m : MX) : MS := fun ρ => (m ρ).map fun r => match r with
  | .ok _ => .nx ρ
  | .ex C f x => .ex C f x ρ
theorem s_exprX (h : JX X W e te mx) (hs : swapsWith e none pos.line X.env = pure false := by rfl) : JS X W (.Expr e pos) (tDrop te) (mDropX mx) := ⟨ps_expr h.p hs, fun ρ o q G0 H0 G H σ E c p => by
  obtain ⟨r, e1, rfl⟩ := Option.map_eq_some_iff.mp q
  refine h.m ρ r e1 G0 H0 G H σ c _ ?_
  cases r with
  | ok d => exact fun v G' H' w r => p G' H' _ w.g (c.mono w)
  | ex C f x => exact fun a v G' H' w r hx => p a v G' H' σ w.g (c.mono w) r hx⟩

/-! ### an own error with one field -/
def spInit (C : Addr) (f : Str) : Sp := fun vs H Q _ => ∃ a y, vs = [.ref a, y] ∧ H a = some (exo a C none) ∧ ∀ dx, H dx = none → dx ≠ a → Q .non (upd (upd H dx (exd dx [(f, y)])) a (exo a C (some dx)))
/-- what is known of an error's class: C, by the name x, its __init__ at fI, which stores the field f -/
structure ErrT (P : Program) (w : World) (K : PySem.W.Frag) (mg : Str → Option Value) (base : Heap) (x : Str) (C : Addr) (f : Str) : Prop where
  g : mg x = some (.ref C)
  oex : OexC K C
  ini : ∃ fI fd ps, PySem.W.findIn K (.ref C) "__init__" = some (some (.ref fI)) ∧ PySem.W.typeIn K (.ref fI) = some (.type "function") ∧ Binds K fd ps [] ∧ FnOk P w K mg base CX0 2 fI fd ps (spInit C f)
def mRaise (C : Addr) (f : Str) (m : ME) : MS := fun ρ => (m ρ).map fun d => .ex C f d ρ
theorem s_raise {C : Addr} {f : Str} {p3 : Pos} {j : Nat} (T : ErrT X.prog X.w X.K X.mg X.base x C f) (hr : Room j X.A) (tk : Takes X W) (he : JE X e te me) (hj : 3 ≤ j := by decide) (hg : Gl X x := by rfl) (hdb : (x == ("__debug__" : Str)) = false := by decide) (hc : X.calm = true := by rfl)
    (hs : starEach (e :: []) X.env = (false, eval e X.env) :: starEach [] X.env := by rfl) (hpl : (backTo pos (starEach [] X.env)).any (·.1) = false := by rfl) :
    JS X W (.Raise (some (.Call (.Name x p2) [e] [] pos)) none p3) (fun _ σ H => tMkO C (spInit C f) [] (tCons te tNil) σ H fun cls d H' => W cls d σ H') (mRaise C f me) := by
  obtain ⟨fI, fd, ps, h1, h2, hb, ok⟩ := T.ini
  refine ⟨ps_raise hc tk (pmk_oex T.oex h1 h2 ok (hr.mono hj) hb .nil pass0 hg T.g (pa_cons he.p pa_nil hs) hdb hs hpl), fun ρ o q G0 H0 G H σ E c p => ?_⟩
  obtain ⟨d, e1, rfl⟩ := Option.map_eq_some_iff.mp q
  refine he.m ρ d e1 G0 H0 G H σ c _ fun v G1 H1 w r => ⟨(by show 1 ≤ 1000; decide), fun a ha => ?_⟩
  refine ⟨a, v, rfl, upd_same, fun dx hdx hne => ⟨rfl, dx, [(f, v)], upd_same, ?_, ?_, ?_⟩⟩
  · rw [upd_ne hne, upd_same]
  · rw [upd_ne hne] at hdx
    exact hdx
  · rw [upd_ne hne] at hdx
    have keep : ∀ b u, H1 b = some u → (upd (del (upd (upd (upd H1 a (exo a C none)) dx (exd dx [(f, v)])) a (exo a C (some dx))) a) dx (.xd [(f, v)])) b = some u := fun b u hb => by
      have n1 : b ≠ a := ne_of_none hb ha
      have n2 : b ≠ dx := ne_of_none hb hdx
      rw [upd_ne n2, del_ne n1, upd_ne n1, upd_ne n2, upd_ne n1]
      exact hb
    have w2 : Wd G1 H1 G1 _ := ⟨Ex.refl G1, keep, fun b u hb => keep b u (w.s b u hb), fun _ _ h => h⟩
    exact p dx v G1 _ σ w.g (c.mono (w.trans w2)) r upd_same
end
end DD

set_option Elab.async false
set_option linter.all false
set_option maxRecDepth 100000
set_option maxHeartbeats 4000000
/-! DD8: calls of a def that a name holds, or an item of a list of defs; the laws' way of catching. -/
namespace DD
open PySem PySem.Spec PyProof.Rows L2 Evl

structure HeldD (P : Program) (w : World) (K : PySem.W.Frag) (mg : Str → Option Value) (base : Heap) (k n : Nat) (f : Addr) (F : List D → Option D) : Prop where
  kp : PySem.W.keepIn K (.ref f) = true
  ok : ∃ fd ps, Binds K fd ps [] ∧ FnOk P w K mg base CX0 k f fd ps (spD K n F)
  ar : ∀ ds d, F ds = some d → ds.length = n
structure HeldX (P : Program) (w : World) (K : PySem.W.Frag) (mg : Str → Option Value) (base : Heap) (k n : Nat) (f : Addr) (F : List D → Option Res) : Prop where
  kp : PySem.W.keepIn K (.ref f) = true
  ok : ∃ fd ps, Binds K fd ps [] ∧ FnOk P w K mg base (L2.CX P w) k f fd ps (spX K n F)
  ar : ∀ ds d, F ds = some d → ds.length = n
theorem FnD.held {P : Program} {w : World} {K : PySem.W.Frag} {mg : Str → Option Value} {base : Heap} {f : Addr} {x : Str} {k n : Nat} {F : List D → Option D} (h : FnD P w K mg base f x k n F) : HeldD P w K mg base k n f F := ⟨h.kp, h.ok, h.ar⟩
theorem FnX.held {P : Program} {w : World} {K : PySem.W.Frag} {mg : Str → Option Value} {base : Heap} {f : Addr} {x : Str} {k n : Nat} {F : List D → Option Res} (h : FnX P w K mg base f x k n F) : HeldX P w K mg base k n f F := ⟨h.kp, h.ok, h.ar⟩
theorem HeldD.mono {P : Program} {w : World} {K : PySem.W.Frag} {mg : Str → Option Value} {base : Heap} {f : Addr} {k j n : Nat} {F : List D → Option D} (h : HeldD P w K mg base k n f F) (hj : k ≤ j) : HeldD P w K mg base j n f F := by
  obtain ⟨fd, ps, hb, ok⟩ := h.ok
  exact ⟨h.kp, ⟨fd, ps, hb, ok.mono hj⟩, h.ar⟩
theorem HeldX.mono {P : Program} {w : World} {K : PySem.W.Frag} {mg : Str → Option Value} {base : Heap} {f : Addr} {k j n : Nat} {F : List D → Option Res} (h : HeldX P w K mg base k n f F) (hj : k ≤ j) : HeldX P w K mg base j n f F := by
  obtain ⟨fd, ps, hb, ok⟩ := h.ok
  exact ⟨h.kp, ⟨fd, ps, hb, ok.mono hj⟩, h.ar⟩
section
variable {X : Cx} {W : WX} {c e fe : Expr} {es : List Expr} {te tf : TE} {me mf : ME} {tl : TA} {ml : MA} {pos p2 : Pos} {x : Str}
def mCallA (i : Nat) (Tb : Addr → Option (List D → Option D)) (m : MA) : ME := fun ρ => (mVar i ρ).bind fun d => match d with
  | .val (.ref f) => (Tb f).bind fun F => (m ρ).bind F
  | _ => none
theorem j_callA (i n : Nat) {k : Nat} {Tb : Addr → Option (List D → Option D)} (A : ∀ f F, Tb f = some F → HeldD X.prog X.w X.K X.mg X.base k n f F) (hr : Room k X.A) (ha : JA X (e :: es) tl ml) (hN : X.N[i]? = some x := by rfl) (hv : Vis X.env.scope x := by first | exact Or.inl rfl | exact Or.inr (Or.inl rfl) | exact Or.inr (Or.inr rfl))
    (hdb : (x == ("__debug__" : Str)) = false := by decide) (hcd : (x == ("__classdict__" : Str)) = false := by decide)
    (he : starEach (e :: es) X.env = (false, eval e X.env) :: starEach es X.env := by rfl) (hpl : (backTo pos (starEach es X.env)).any (·.1) = false := by rfl) {K : PySem.W.Frag} (hK : X.K = K := by rfl) :
    JE X (.Call (.Name x p2) (e :: es) [] pos) (tCallA i (fun f => (Tb f).map fun F => spD K n F) tl) (mCallA i Tb ml) := by
  subst hK
  refine ⟨pe_callA (k := k) (fun f sp h => ?_) hr hN hv ha.p hdb hcd he hpl, fun ρ d q G0 H0 G H σ cf Q z => ?_⟩
  · obtain ⟨F, h1, rfl⟩ := Option.map_eq_some_iff.mp h
    obtain ⟨fd, ps, hb, ok⟩ := (A f F h1).ok
    exact ⟨⟨fd, ps, ok, (A f F h1).kp, hb⟩⟩
  · obtain ⟨d1, e1, q⟩ := Option.bind_eq_some_iff.mp q
    unfold mVar at e1
    split at e1
    · rename_i d' hi
      cases e1
      obtain ⟨v, hs, rv⟩ := cf.slot i _ hi
      split at q
      · rename_i f
        obtain ⟨F, h1, q⟩ := Option.bind_eq_some_iff.mp q
        obtain ⟨ds, h2, q⟩ := Option.bind_eq_some_iff.mp q
        cases rp_val rv
        refine ⟨f, spD X.K n F, hs, (by show (Tb f).map _ = _; rw [h1]; rfl), ha.m ρ ds h2 G0 H0 G H σ cf _ fun vs G1 H1 w1 r1 => ⟨G1, ds, d, ?_, w1.s, r1, q, fun v G2 H2 w2 r2 => z v G2 H2 (w1.trans w2) r2⟩⟩
        rw [r1.length]
        exact (A f F h1).ar ds d q
      · cases q
    · cases e1
/-- the callee is what an expression gives -/
def tCallV (S : Addr → Option Sp) (W : WX) (tf : TE) (t : TA) : TE := fun σ H Q => tf σ H fun y H1 => ∃ f sp, y = .ref f ∧ S f = some sp ∧ t σ H1 fun vs H2 => sp vs H2 Q (WE W σ)
def mCallV (Tb : Addr → Option (List D → Option Res)) (mf : ME) (m : MA) : MX := fun ρ => (mf ρ).bind fun d => match d with
  | .val (.ref f) => (Tb f).bind fun F => (m ρ).bind F
  | _ => none
theorem x_callV (n : Nat) {k : Nat} {Tb : Addr → Option (List D → Option Res)} (A : ∀ f F, Tb f = some F → HeldX X.prog X.w X.K X.mg X.base k n f F) (hr : Room k X.A) (tk : Takes X W) (hf : JE X fe tf mf) (ha : JA X (e :: es) tl ml)
    (hcall : eval (.Call fe (e :: es) [] pos) X.env = (do callWith pos (← eval fe X.env) [] (backTo pos (starEach (e :: es) X.env)) (backToKw pos (keywordEach [] X.env))) := by rfl)
    (he : starEach (e :: es) X.env = (false, eval e X.env) :: starEach es X.env := by rfl) (hpl : (backTo pos (starEach es X.env)).any (·.1) = false := by rfl) {K : PySem.W.Frag} (hK : X.K = K := by rfl) :
    JX X W (.Call fe (e :: es) [] pos) (tCallV (fun f => (Tb f).map fun F => spX K n F) W tf tl) (mCallV Tb mf ml) := by
  subst hK
  refine ⟨⟨fun pins s σ H Q I h => ?_⟩, fun ρ r q G0 H0 G H σ cf Q z => ?_⟩
  · refine Call_ (thn (hf.p.run pins s σ H _ I h) fun u s1 ⟨y, H1, I1, r1, q1⟩ => ?_) hcall
    obtain ⟨f, sp, rfl, hS, ht⟩ := q1
    cases r1
    obtain ⟨F, h1, rfl⟩ := Option.map_eq_some_iff.mp hS
    obtain ⟨fd, ps, hb, ok⟩ := (A f F h1).ok
    refine PySem.W.callWith_K (h₀ := X.base) I.ok.mod.kin (A f F h1).kp (thn (ha.p.run pos pins s1 σ _ _ I1 ht) fun us s2 ⟨vs, H2, I2, r, q⟩ => ⟨I2.kIn, ?_⟩) he hpl
    exact run_fnS ok hr hb (passAt tk σ) I2 r q
  · obtain ⟨d1, e1, q⟩ := Option.bind_eq_some_iff.mp q
    split at q
    · rename_i f
      obtain ⟨F, h1, q⟩ := Option.bind_eq_some_iff.mp q
      obtain ⟨ds, h2, q⟩ := Option.bind_eq_some_iff.mp q
      refine hf.m ρ _ e1 G0 H0 G H σ cf _ fun y G1 H1 w1 r1 => ?_
      cases rp_val r1
      refine ⟨f, spX X.K n F, rfl, (by show (Tb f).map _ = _; rw [h1]; rfl), ha.m ρ ds h2 G0 H0 G1 H1 σ (cf.mono w1) _ fun vs G2 H2 w2 r2 => ⟨G2, ds, r, ?_, w2.s, r2, q, z.mono (w1.trans w2)⟩⟩
      rw [r2.length]
      exact (A f F h1).ar ds r q
    · cases q
/-! ### isinstance of a caught own error that has a field -/
def rIsX (K : PySem.W.Frag) (C a : Addr) (cls : Value) (d : Option Addr) : List V → Hp → VK → Prop := fun xs H Q => ∃ (y : V) (cv : Value) (b : Bool) (dd : Addr) (fs : List (Str × V)), xs = [.ref a, y] ∧ cls = .ref C ∧ d = some dd ∧ H dd = some (.xd fs) ∧ (∀ u, RelV y u → u = cv) ∧ PySem.W.kitOne K (.ref C) cv = some b ∧ Q (.bl b) H
structure ErrC (K : PySem.W.Frag) (D : Addr) : Prop where
  hc : (PySem.W.clsIn K D).isSome = true
  hg : PySem.W.findIn K (.ref D) "__getattribute__" = some (some (.builtin "BaseException.__getattribute__"))
  hk : PySem.W.findIn K (.ref D) "__getattr__" = some none
  hs : PySem.W.subIn K (.ref D) (.type "BaseException") = some true
  ha : PySem.W.findIn K (.ref D) "__class__" = some (some (.builtin "object.__class__"))
  hn : PySem.W.specialIn K (.builtin "object.__class__") "__get__" = some (some (.builtin "getset_descriptor.__get__"))
  ht : PySem.W.takesIn K (.builtin "object.__class__") = some true
  hm : PySem.W.mroIn K D (.type "object") = some true
theorem call_isX {a C : Addr} {cls : Value} {d : Option Addr} {oe : Obj} {pn : List (Addr × Obj)} (T : ErrC X.K C) (hz : Zc cls d oe) (hf : ∃ vs, oe.data = .fields vs) : CallR (X.suite a ((a, oe) :: pn)) (.builtin "isinstance") (rIsX X.K C a cls d) := by
  intro pins s σ H xs us Q I r h
  obtain ⟨y, cv, b, dd, fs, rfl, hcl, hd, hx, hcv, e, q⟩ := h
  subst hd hcl
  cases r with
  | cons rx rr =>
    cases rr with
    | cons rt rr =>
      cases rr
      cases rx
      have ec := hcv _ rt
      subst ec
      obtain ⟨hget, _⟩ := I.pin (a, oe) (List.mem_append.mpr (.inl List.mem_cons_self))
      obtain ⟨vs, hv⟩ := hf
      have hx2 : ObjOk X.prog X.w H s.heap dd (.xd fs) := I.hok dd _ hx
      obtain ⟨mA, hns, hr⟩ := hx2
      obtain ⟨od, ho, hl⟩ := lookIn_ns hns
      have J : PySem.W.InstAt s.heap a oe C (some od) := ⟨hget, hz.1, by unfold PySem.W.notCls; rw [hv] <;> rfl, by rw [hz.2]; exact ho⟩
      exact PySem.W.kia_one (PySem.W.kitx_exc T.hc T.hg T.hk T.hs T.ha T.hn T.ht T.hm) I.kIn J e (fun z => nomatch z) fun tk => ⟨.bl b, H, I.kept (t' := tk) fun _ _ z => z, rfl, q⟩
/-- try: return CALL / except C as e: if isinstance(e, C2): return z1; return (z2, e.f) -/
def tNote (K : PySem.W.Frag) (C C2 : Addr) (i : Nat) (z1 z2 : Str) (f : Str) : Addr → Value → Option Addr → TS := fun a cls d =>
  tSeq (tIfS (tB (tCB (rIsX K C a cls d) (tCons (tVar i) (tCons (tC (.ref C2)) tNil)))) (tRet (tC (.str z1))) tNext) (tRet (tTup (tCons (tC (.str z2)) (tCons (tXf a cls d C f (tVar i)) tNil))))
def mNote (i : Nat) (C : Addr) (f z2 : Str) (m : MX) : MS := fun ρ => if i < ρ.length then (m ρ).bind fun r => match r with
  | .ok d => some (.rt d)
  | .ex C' f' x => if C' = C ∧ f' = f then some (.rt (.tup [.str z2, x])) else none
  else none
theorem s_note {i : Nat} {call : Expr} {t : WX → TE} {mx : MX} {n x : Str} {C C2 : Addr} {f z1 z2 : Str} {np pos' rp : Pos} {b0 : Stmt} {suite : List Stmt} {K : PySem.W.Frag} (hK : X.K = K) (hs : X.stack = X.env :: X.outer) (hfr : X.env.frame = some X.env.locals) (hN : X.N.Nodup) (hi : X.N[i]? = some n) (hln : X.env.kindOf n = some .local) (hc : Names X x (.ref C)) (tk : Takes X W)
    (hcall : ∀ (W : WX) (pn : List (Addr × Obj)) (xe : Value → Shared → Prop), Takes (X.tr pn xe) W → JX (X.tr pn xe) W call (t W) mx)
    (hsu : ∀ (a : Addr) (oe : Obj) (cls : Value) (d : Option Addr) (pn : List (Addr × Obj)), Zc cls d oe → (∃ vs, oe.data = .fields vs) → PSs (X.suite a ((a, oe) :: pn)) (b0 :: suite) (tNote K C C2 i z1 z2 f a cls d))
    (e1 : PySem.W.exmOne K (.ref C) (.ref C) = some true) (e2 : PySem.W.kitOne K (.ref C) (.ref C2) = some false) :
    JS X W (.Try [.Return (some call) rp] [.ExceptHandler (some (.Name x np)) (some n) (b0 :: suite) pos'] [] [] pos) (fun D σ H => tRet (t (wAs K (.ref C) i (tNote K C C2 i z1 z2 f) W D)) D σ H) (mNote i C f z2 mx) := by
  subst hK
  refine ⟨ps_try_as (tb := fun W => tRet (t W)) hs hfr hN hi hln hc tk (fun W pn xe htk hp => pss_one (ps_ret (hcall W pn xe htk).p)) hsu, fun ρ o q G0 H0 G H σ E c p => ?_⟩
  unfold mNote at q
  split at q
  case isFalse => cases q
  rename_i hlen
  obtain ⟨r, e3, q⟩ := Option.bind_eq_some_iff.mp q
  have hm : XM X.K (wAs X.K (.ref C) i (tNote X.K C C2 i z1 z2 f) W E) (t (wAs X.K (.ref C) i (tNote X.K C C2 i z1 z2 f) W E)) mx :=
    (hcall (wAs X.K (.ref C) i (tNote X.K C C2 i z1 z2 f) W E) [] (fun _ _ => True) (fun _ _ _ => trivial)).m
  refine hm ρ r e3 G0 H0 G H σ c _ ?_
  cases r with
  | ok d =>
    cases q
    exact fun v G' H' w r => p v G' H' (c.wd0.trans w) r
  | ex C' f' xx =>
    have q' : (if C' = C ∧ f' = f then some (Out.rt (.tup [.str z2, xx])) else none) = some o := q
    split at q'
    · rename_i hh
      obtain ⟨rfl, rfl⟩ := hh
      cases q'
      refine fun a v G' H' w rx hx => ⟨true, e1, fun _ b hb => ?_, fun z => nomatch z⟩
      have hiσ : (σ.set i (some (.ref b)))[i]? = some (some (.ref b)) := by
        have hl : i < σ.length := by rw [← c.len]; exact hlen
        rw [List.getElem?_set_self hl]
      refine ⟨_, hiσ, ⟨_, _, _, a, [(f', v)], rfl, rfl, rfl, hx, fun u ru => ru, e2, ⟨false, rfl, iteF ?_⟩⟩⟩
      refine ⟨_, hiσ, rfl, rfl, a, [(f', v)], v, rfl, hx, by simp [List.lookup], ⟨(by show 2 ≤ sizeLine; decide), fun q hq => ?_⟩⟩
      have w2 := Wd.new (o := .tup [.str z2, v]) w.s hq
      exact p _ _ _ (c.wd0.trans (w.trans w2)) (.tup (.inl (.inl upd_same)) (.cons (.val _) (.cons (rx.mono w2.g) .nil)))
    · cases q'
/-- what is asked of an error's class to be caught and read: its name x, C, its field f -/
structure ErrF (K : PySem.W.Frag) (mg : Str → Option Value) (x : Str) (C : Addr) (f : Str) : Prop where
  g : mg x = some (.ref C)
  c : ErrC K C
  xf : XfC K C
  no : PySem.W.findIn K (.ref C) f = some none
  exm : PySem.W.exmOne K (.ref C) (.ref C) = some true
end
end DD

set_option Elab.async false
set_option linter.all false
set_option maxRecDepth 100000
set_option maxHeartbeats 4000000
/-! DD9: the K-judgements: as L2's, and what the frame holds under the names ν is kept to the token. -/
namespace DD
open PySem PySem.Spec PyProof.Rows L2 Evl

abbrev Kx (s s' : Shared) : Prop := ∀ b u, s.heap.get? b = some u → s'.heap.get? b = some u
def Kn (X : Cx) (ν : List Str) (s s' : Shared) : Prop := ∀ m, s.heap.Ns X.env.locals m → ∃ m', s'.heap.Ns X.env.locals m' ∧ ∀ x ∈ ν, m' x = m x
def Fz (H H' : Hp) : Prop := ∀ a o u, H a = some (.frz o u) → H' a = some (.frz o u)
section
variable {X : Cx} {ν : List Str} {s s1 s2 s' : Shared} {H H1 H2 : Hp}
theorem Kx.kn (h : Kx s s') : Kn X ν s s' := fun m n => ⟨m, n.keeps h, fun _ _ => rfl⟩
theorem Kn.refl : Kn X ν s s := fun m n => ⟨m, n, fun _ _ => rfl⟩
theorem Kn.trans (h : Kn X ν s s1) (h2 : Kn X ν s1 s2) : Kn X ν s s2 := fun m n => by
  obtain ⟨m1, n1, e1⟩ := h m n
  obtain ⟨m2, n2, e2⟩ := h2 m1 n1
  exact ⟨m2, n2, fun x hx => (e2 x hx).trans (e1 x hx)⟩
theorem Fz.refl : Fz H H := fun _ _ _ e => e
theorem Fz.trans (h : Fz H H1) (h2 : Fz H1 H2) : Fz H H2 := fun a o u e => h2 a o u (h a o u e)
theorem Fz.new {p : Addr} {o : HO} (hp : H p = none) : Fz H (upd H p o) := fun a ob u e => by
  rw [upd_ne (ne_of_none e hp)]; exact e
end
def EV (X : Cx) (pins : List (Addr × Obj)) (σ : L2.St) (s : Shared) (H : Hp) (Q : VK) (v : Value) (s' : Shared) : Prop := Kx s s' ∧ ∃ x H', Fz H H' ∧ Inv X pins σ H' s' ∧ RelV x v ∧ Q x H'
def EK (X : Cx) (ν : List Str) (pins : List (Addr × Obj)) (σ : L2.St) (s : Shared) (H : Hp) (Q : VK) (v : Value) (s' : Shared) : Prop := Kn X ν s s' ∧ ∃ x H', Fz H H' ∧ Inv X pins σ H' s' ∧ RelV x v ∧ Q x H'
def TK (X : Cx) (ν : List Str) (pins : List (Addr × Obj)) (σ : L2.St) (s : Shared) (H : Hp) (Q : Bool → Hp → Prop) (b : Bool) (s' : Shared) : Prop := Kn X ν s s' ∧ ∃ H', Fz H H' ∧ Inv X pins σ H' s' ∧ Q b H'
def AK (X : Cx) (ν : List Str) (pins : List (Addr × Obj)) (σ : L2.St) (s : Shared) (H : Hp) (Q : List V → Hp → Prop) (us : List Value) (s' : Shared) : Prop := Kn X ν s s' ∧ ∃ xs H', Fz H H' ∧ Inv X pins σ H' s' ∧ Vals xs us ∧ Q xs H'
def OK' (X : Cx) (ν : List Str) (pins : List (Addr × Obj)) (σ : L2.St) (s : Shared) (H : Hp) (Q : Option Int → Hp → Prop) (u : Value) (s' : Shared) : Prop := Kn X ν s s' ∧ ∃ i H', Fz H H' ∧ Inv X pins σ H' s' ∧ IsPart u i ∧ Q i H'
def NK (X : Cx) (pins : List (Addr × Obj)) (H : Hp) (N : L2.St → Hp → Prop) (s' : Shared) : Prop := ∃ σ' H', Fz H H' ∧ Inv X pins σ' H' s' ∧ N σ' H'
def SK (X : Cx) (ν : List Str) (pins : List (Addr × Obj)) (s : Shared) (H : Hp) (D : Ends) (f : Flow) (s' : Shared) : Prop := Kn X ν s s' ∧ match f with
  | .next => NK X pins H D.nx s'
  | .brk => NK X pins H D.bk s'
  | .cont => NK X pins H D.ct s'
  | .ret u => ∃ v σ' H', Fz H H' ∧ Inv X pins σ' H' s' ∧ RelV v u ∧ D.rt v H'

structure PEK (X : Cx) (ν : List Str) (e : Expr) (t : TE) : Prop where
  run : ∀ (pins : List (Addr × Obj)) (s : Shared) (σ : L2.St) (H : Hp) (Q : VK), Inv X pins σ H s → t σ H Q → wpAny (model X.prog X.w) X.A (eval e X.env) (EK X ν pins σ s H Q) X.xe s
structure PTK (X : Cx) (ν : List Str) (e : Expr) (t : TT) : Prop where
  run : ∀ (pins : List (Addr × Obj)) (s : Shared) (σ : L2.St) (H : Hp) (Q : Bool → Hp → Prop), Inv X pins σ H s → t σ H Q → wpAny (model X.prog X.w) X.A (isTrue e X.env (eval e X.env)) (TK X ν pins σ s H Q) X.xe s
structure PWK (X : Cx) (ν : List Str) (e : Expr) (t : TT) : Prop where
  run : ∀ (whole : Sem Value) (pins : List (Addr × Obj)) (s : Shared) (σ : L2.St) (H : Hp) (Q : Bool → Hp → Prop), Inv X pins σ H s → t σ H Q → wpAny (model X.prog X.w) X.A (isTrue e X.env whole) (TK X ν pins σ s H Q) X.xe s
structure PAK (X : Cx) (ν : List Str) (es : List Expr) (t : TA) : Prop where
  run : ∀ (pos : Pos) (pins : List (Addr × Obj)) (s : Shared) (σ : L2.St) (H : Hp) (Q : List V → Hp → Prop), Inv X pins σ H s → t σ H Q → wpAny (model X.prog X.w) X.A (spliced (backTo pos (starEach es X.env))) (AK X ν pins σ s H Q) X.xe s
structure POK (X : Cx) (ν : List Str) (e : Option Expr) (t : TO) : Prop where
  run : ∀ (pins : List (Addr × Obj)) (s : Shared) (σ : L2.St) (H : Hp) (Q : Option Int → Hp → Prop), Inv X pins σ H s → t σ H Q → wpAny (model X.prog X.w) X.A (evalPart e X.env) (OK' X ν pins σ s H Q) X.xe s
structure PSK (X : Cx) (ν : List Str) (st : Stmt) (t : TS) : Prop where
  run : ∀ (pins : List (Addr × Obj)) (s : Shared) (σ : L2.St) (H : Hp) (D : Ends), Inv X pins σ H s → t D σ H → wpAny (model X.prog X.w) X.A (exec st X.env) (SK X ν pins s H D) X.xe s
structure PSsK (X : Cx) (ν : List Str) (st : List Stmt) (t : TS) : Prop where
  run : ∀ (pins : List (Addr × Obj)) (s : Shared) (σ : L2.St) (H : Hp) (D : Ends), Inv X pins σ H s → t D σ H → wpAny (model X.prog X.w) X.A (execs st X.env) (SK X ν pins s H D) X.xe s

section
variable {X : Cx} {ν : List Str} {pins : List (Addr × Obj)} {σ : L2.St} {s s1 s2 : Shared} {H H1 : Hp} {Q : VK} {v : Value}
theorem EV.k (h : EV X pins σ s H Q v s1) : EK X ν pins σ s H Q v s1 := ⟨h.1.kn, h.2⟩
theorem EK.from (k : Kn X ν s s1) (f : Fz H H1) (h : EK X ν pins σ s1 H1 Q v s2) : EK X ν pins σ s H Q v s2 := by
  obtain ⟨k2, x, H2, f2, r⟩ := h
  exact ⟨k.trans k2, x, H2, f.trans f2, r⟩
theorem TK.from {Q : Bool → Hp → Prop} {b : Bool} (k : Kn X ν s s1) (f : Fz H H1) (h : TK X ν pins σ s1 H1 Q b s2) : TK X ν pins σ s H Q b s2 := by
  obtain ⟨k2, H2, f2, r⟩ := h
  exact ⟨k.trans k2, H2, f.trans f2, r⟩
theorem SK.from {D : Ends} {fl : Flow} (k : Kn X ν s s1) (f : Fz H H1) (h : SK X ν pins s1 H1 D fl s2) : SK X ν pins s H D fl s2 := by
  obtain ⟨k2, h⟩ := h
  refine ⟨k.trans k2, ?_⟩
  cases fl with
  | next => obtain ⟨σ', H', f2, r⟩ := h; exact ⟨σ', H', f.trans f2, r⟩
  | brk => obtain ⟨σ', H', f2, r⟩ := h; exact ⟨σ', H', f.trans f2, r⟩
  | cont => obtain ⟨σ', H', f2, r⟩ := h; exact ⟨σ', H', f.trans f2, r⟩
  | ret u => obtain ⟨x, σ', H', f2, r⟩ := h; exact ⟨x, σ', H', f.trans f2, r⟩
theorem EK.ep (h : EK X ν pins σ s H Q v s1) : EP X pins σ Q v s1 := by
  obtain ⟨_, x, H1, _, I, r, q⟩ := h
  exact ⟨x, H1, I, r, q⟩
/-- the ends of value-level rules -/
theorem ev_tok {x : V} {k : Nat} (I : Inv X pins σ H s) (r : RelV x v) (q : Q x H) : EV X pins σ s H Q v { s with toks := k } := ⟨fun _ _ e => e, x, H, Fz.refl, I.tok k, r, q⟩
theorem ev_same {x : V} (I : Inv X pins σ H s) (r : RelV x v) (q : Q x H) : EV X pins σ s H Q v s := ⟨fun _ _ e => e, x, H, Fz.refl, I, r, q⟩
theorem ev_lst {vs : List V} {its : List Value} {n k : Nat} {h' : Heap} (I : Inv X pins σ H s) (r : Vals vs its) (hz : vs.length ≤ sizeLine) (kp : ∀ b u, s.heap.get? b = some u → h'.get? b = some u)
    (e : h'.get? s.heap.objs.size = some { cls := .type "list", data := .seq its.toArray n }) (q : ∀ p, H p = none → Q (.ref p) (upd H p (.lst vs))) : EV X pins σ s H Q (.ref s.heap.objs.size) { s with heap := h', toks := k } := by
  have hp := I.hok.fresh (Nat.le_refl s.heap.objs.size)
  refine ⟨kp, .ref s.heap.objs.size, upd H s.heap.objs.size (.lst vs), Fz.new hp, I.laid kp (Nat.le_refl _) ⟨hz, its, n, r, e⟩, rfl, q _ hp⟩
end

/-! ### rules of operations -/
def OpK (X : Cx) (f : Value → Value → Sem Value) (r : R2) : Prop :=
  ∀ (pins : List (Addr × Obj)) (s : Shared) (σ : L2.St) (H : Hp) (x y : V) (v u : Value) (Q : VK), Inv X pins σ H s → RelV x v → RelV y u → r x y H Q → wpAny (model X.prog X.w) X.A (f v u) (EV X pins σ s H Q) X.xe s
def IxK (X : Cx) (r : R2) : Prop :=
  ∀ (value slice : Expr) (pins : List (Addr × Obj)) (s : Shared) (σ : L2.St) (H : Hp) (x y : V) (v u : Value) (Q : VK), Inv X pins σ H s → RelV x v → RelV y u → r x y H Q →
    subscripted slice false v u = operate [v, u] (getItem v u) → wpAny (model X.prog X.w) X.A (subscriptTail value slice v u) (EV X pins σ s H Q) X.xe s
def SlK (X : Cx) (r : V → Option Int → Option Int → Hp → VK → Prop) : Prop :=
  ∀ (pins : List (Addr × Obj)) (s : Shared) (σ : L2.St) (H : Hp) (x : V) (v vl vu : Value) (lo hi : Option Int) (sl : Addr) (Q : VK), Inv X pins σ H s → RelV x v → s.heap.IsSliceOf sl vl vu .none → IsPart vl lo → IsPart vu hi → r x lo hi H Q →
    ∃ T id, typeLookup (.type T) "__getitem__" = pure (some (.builtin id)) ∧ s.TypeIs v T ∧ wpAny (model X.prog X.w) X.A (getItem v (.ref sl)) (EV X pins σ s H Q) X.xe s
def CallK (X : Cx) (f : Value) (r : List V → Hp → VK → Prop) : Prop :=
  ∀ (pins : List (Addr × Obj)) (s : Shared) (σ : L2.St) (H : Hp) (xs : List V) (us : List Value) (Q : VK), Inv X pins σ H s → Vals xs us → r xs H Q → wpAny (model X.prog X.w) X.A (call f us) (EV X pins σ s H Q) X.xe s
def MtK (X : Cx) (id : String) (r : V → List V → Hp → VK → Prop) : Prop :=
  ∀ (pins : List (Addr × Obj)) (s : Shared) (σ : L2.St) (H : Hp) (x : V) (xs : List V) (v : Value) (us : List Value) (Q : VK), Inv X pins σ H s → RelV x v → Vals xs us → r x xs H Q → wpAny (model X.prog X.w) X.A (call (.builtin id) (v :: us)) (EV X pins σ s H Q) X.xe s
section
variable {X : Cx}
theorem OpK.or {f : Value → Value → Sem Value} {r r' : R2} (h : OpK X f r) (h' : OpK X f r') : OpK X f (fun x y H Q => r x y H Q ∨ r' x y H Q) := by
  intro pins s σ H x y v u Q I rx ry q
  rcases q with q | q
  · exact h pins s σ H x y v u Q I rx ry q
  · exact h' pins s σ H x y v u Q I rx ry q
theorem SlK.or {r r' : V → Option Int → Option Int → Hp → VK → Prop} (h : SlK X r) (h' : SlK X r') : SlK X (fun x lo hi H Q => r x lo hi H Q ∨ r' x lo hi H Q) := by
  intro pins s σ H x v vl vu lo hi sl Q I rx hs pl pu q
  rcases q with q | q
  · exact h pins s σ H x v vl vu lo hi sl Q I rx hs pl pu q
  · exact h' pins s σ H x v vl vu lo hi sl Q I rx hs pl pu q
theorem opKI {f : Value → Value → Sem Value} {C : Int → Int → Prop} {g : Int → Int → Int}
    (rule : ∀ (i j : Int) (t u : Tok) (s : Shared) (Q : Value → Shared → Prop) (E : Value → Shared → Prop), C i j → Q (.int (g i j) s.toks) { s with toks := s.toks + 1 } → wpAny (model X.prog X.w) X.A (f (.int i t) (.int j u)) Q E s) :
    OpK X f (rI C fun i j => .int (g i j)) := by
  intro pins s σ H x y v u Q I rx ry h
  obtain ⟨i, j, rfl, rfl, hc, q⟩ := h
  obtain ⟨t, rfl⟩ := rx
  obtain ⟨t', rfl⟩ := ry
  exact rule i j t t' s _ _ hc (ev_tok I (x := .int (g i j)) ⟨_, rfl⟩ q)
theorem opKI0 {f : Value → Value → Sem Value} {g : Int → Int → Int}
    (rule : ∀ (i j : Int) (t u : Tok) (s : Shared) (Q : Value → Shared → Prop) (E : Value → Shared → Prop), Q (.int (g i j) s.toks) { s with toks := s.toks + 1 } → wpAny (model X.prog X.w) X.A (f (.int i t) (.int j u)) Q E s) :
    OpK X f (rI0 fun i j => .int (g i j)) := by
  intro pins s σ H x y v u Q I rx ry h
  obtain ⟨i, j, rfl, rfl, q⟩ := h
  obtain ⟨t, rfl⟩ := rx
  obtain ⟨t', rfl⟩ := ry
  exact rule i j t t' s _ _ (ev_tok I (x := .int (g i j)) ⟨_, rfl⟩ q)
theorem opk_add0 : OpK X (binaryOp .Add) (rI0 fun i j => .int (i + j)) := opKI0 fun _ _ _ _ _ _ _ q => add_int q
theorem opk_sub : OpK X (binaryOp .Sub) (rI0 fun i j => .int (i - j)) := opKI0 fun _ _ _ _ _ _ _ q => sub_int q
theorem opk_mul : OpK X (binaryOp .Mult) (rI CMul fun i j => .int (i * j)) := opKI fun _ _ _ _ _ _ _ hc q => mul_int q hc.ok
theorem opk_mod : OpK X (binaryOp .Mod) (rI (fun _ j => 0 < j) fun i j => .int (i % j)) := opKI fun i j _ _ _ _ _ hc q => by
  have h1 : (0 : Int) < j := hc
  exact mod_int' (by omega) (by rw [Int.fmod_eq_emod_of_nonneg i (by omega)]; exact q)
def rCatS : R2 := fun x y H Q => ∃ i j, x = .str i ∧ y = .str j ∧ i.length + j.length ≤ sizeLine ∧ Q (.str (i ++ j)) H
theorem opk_catS : OpK X (binaryOp .Add) rCatS := by
  intro pins s σ H x y v u Q I rx ry h
  obtain ⟨i, j, rfl, rfl, hz, q⟩ := h
  obtain ⟨t, rfl⟩ := rx
  obtain ⟨t', rfl⟩ := ry
  exact add_str (fun t' tk => ev_tok I (x := .str (i ++ j)) ⟨_, rfl⟩ q) hz
theorem opk_catR : OpK X (binaryOp .Add) (rCatR X.K) := by
  intro pins s σ H x y v u Q I rx ry h
  obtain ⟨l, b, xs, zs, rfl, rfl, hH, hB, hz, q⟩ := h
  cases rx
  cases ry
  obtain ⟨its, r, ⟨o, n, ho, hc, hd, hs⟩, _⟩ := I.list hH
  obtain ⟨its2, r2, ⟨o2, n2, ho2, hc2, hd2, hs2⟩, _⟩ := I.list hB
  have l1 := r.length
  have l2 := r2.length
  obtain ⟨oc, od, odt, osl⟩ := o
  obtain ⟨oc2, od2, odt2, osl2⟩ := o2
  simp only at hc hd hs hc2 hd2 hs2
  subst hc hd hs hc2 hd2 hs2
  have e : its.toArray ++ its2.toArray = (its ++ its2).toArray := by simp
  refine PySem.concat_meets ⟨_, ho, rfl⟩ ⟨_, ho2, rfl⟩ noFill_list_add seq_list_add PySem.F.slot_list_add PySem.F.entry_list_add (PySem.F.args_list_add_2 _ _)
    (PyProof.Rows.list_addW l b its.toArray its2.toArray n n2 none none osl osl2 (by simp; omega)) ⟨ho, ho2, ?_⟩
  rw [e]
  exact ev_lst (k := s.toks) I (r.append r2) (by rw [List.length_append]; omega) (fun b o e => Heap.get?_push_of_some _ e) (Heap.get?_push_size _ rfl) q
/-- ints, texts, lists -/
def rAddK (K : PySem.W.Frag) : R2 := fun x y H Q => rI0 (fun i j => .int (i + j)) x y H Q ∨ rCatS x y H Q ∨ rCatR K x y H Q
theorem opk_add : OpK X (binaryOp .Add) (rAddK X.K) := opk_add0.or (opk_catS.or opk_catR)
theorem opk_ne (hu : X.A.units + 64 < cLine) : OpK X (compareOp .NotEq) (rNeD X.K) := by
  intro pins s σ H x y v u Q I rx ry h
  obtain ⟨d, e, hd, he, sd, se, q⟩ := h
  obtain ⟨as, r1⟩ := Dp.reads I d x v hd rx
  obtain ⟨bs, r2⟩ := Dp.reads I e y u he ry
  exact SeqAt.compareNe_shaped r1 r2 sd se hu (ev_same I (x := .bl _) rfl q)
theorem ixk_list : IxK X (rIxL X.K) := by
  intro value slice pins s σ H x y v u Q I rx ry h hs
  obtain ⟨p, xs, i, z, rfl, rfl, hq, he, q⟩ := h
  cases rx
  obtain ⟨t, rfl⟩ := ry
  obtain ⟨its, r, pl, hz⟩ := I.list hq
  obtain ⟨j, h1, h2, h3, h4, h5⟩ := atI_get he
  obtain ⟨w, ew, rw'⟩ := r.get h2
  have hl := r.length
  have hn := line63
  have fin : EV X pins σ s H Q w s := ev_same I rw' q
  by_cases h0 : 0 ≤ i
  · have hj : i.toNat = j := by
      rw [seqIndex_of h0 h5] at h1
      exact Option.some.inj h1
    exact item_listR pl.isList h0 (by omega) (by rw [hj]; simpa using ew) fin hs
  · have hj : (i + (its.toArray.size : Int)).toNat = j := by
      rw [seqIndex_neg (by omega) h4] at h1
      rw [List.size_toArray, ← hl]
      exact Option.some.inj h1
    exact subscriptTail_builtinR (x := w) pl.isList.typeIs slot_list_getitem.lookup
      (wpAny_getItem_list_neg (Q := fun r s' => r = w ∧ EV X pins σ s H Q r s') pl.isList (by omega) (by rw [List.size_toArray] <;> omega) (by omega) (by rw [hj]; simpa using ew) ⟨rfl, fin⟩) hs
theorem slk_list : SlK X (rSlL X.K) := by
  intro pins s σ H x v vl vu lo hi sl Q I rx hs pl pu h
  obtain ⟨a, xs, rfl, hx, q⟩ := h
  cases rx
  obtain ⟨its, r, ht, hz⟩ := I.list hx
  have hlen := r.length
  refine ⟨"list", _, slot_list_getitem.lookup, ht.isList.typeIs, ?_⟩
  refine wpAny_getItem_list_slice ht.isList hs pl pu .none (by simp) ?_ (by rw [List.size_toArray] <;> omega)
  rw [slicePick_cut, ← hlen]
  exact ev_lst (k := s.toks) I ((r.drop (HT.sIx xs.length 0 lo)).take (HT.sIx xs.length xs.length hi - HT.sIx xs.length 0 lo)) (Nat.le_trans (cutV_length xs lo hi) hz) (fun b o e => Heap.get?_push_of_some _ e) (Heap.get?_push_size _ rfl) q
theorem slk_str : SlK X rSlS := by
  intro pins s σ H x v vl vu lo hi sl Q I rx hs pl pu h
  obtain ⟨z, rfl, hz, q⟩ := h
  obtain ⟨t, rfl⟩ := rx
  obtain ⟨os, hos, hcs, hds⟩ := hs
  obtain ⟨l, rfl, rfl⟩ := IsPart.raw pl
  obtain ⟨u, rfl, rfl⟩ := IsPart.raw pu
  refine ⟨"str", _, F.slot_str_getitem.lookup, typeIs_str _ _ _, ?_⟩
  refine wpAny_getItem_str_slice (l := l) (u := u) (st := none) ⟨os, hos, hcs, hds⟩ rfl ?_
  have hl : (PySem.StrLaws.sliceText z (l.map (·.1)) (u.map (·.1))).length ≤ sizeLine := by
    rw [sliceText_cut]
    exact Nat.le_trans (cutS_length z _ _) hz
  rw [← sliceText_cut] at q
  unfold PySem.StrLaws.sliceText at q hl
  show Made.post (if ((1 : Int) == 1 && (Builtin.Str.strSliceIndices (l.map (·.1)) (u.map (·.1)) 1 z.length).length == z.length) = true then Made.val (.str z t)
    else Made.str ⟨((Builtin.Str.strSliceIndices (l.map (·.1)) (u.map (·.1)) 1 z.length).filterMap (z.cps[·]?)).toArray⟩) (EV X pins σ s H Q) s
  by_cases c : ((1 : Int) == 1 && (Builtin.Str.strSliceIndices (l.map (·.1)) (u.map (·.1)) 1 z.length).length == z.length) = true
  · rw [if_pos c] at q ⊢
    exact ev_same I (x := .str z) ⟨t, rfl⟩ q
  · rw [if_neg c] at q hl ⊢
    exact ⟨hl, ev_tok I (x := .str _) ⟨_, rfl⟩ q⟩
def rSlK (K : PySem.W.Frag) : V → Option Int → Option Int → Hp → VK → Prop := fun x lo hi H Q => rSlL K x lo hi H Q ∨ rSlS x lo hi H Q
theorem slk_any : SlK X (rSlK X.K) := slk_list.or slk_str
def rLenK (K : PySem.W.Frag) : List V → Hp → VK → Prop := fun xs H Q => (∃ z, xs = [.str z] ∧ z.length ≤ sizeLine ∧ Q (.int z.length) H) ∨ ∃ p ys, xs = [.ref p] ∧ SqL K H p ys ∧ Q (.int ys.length) H
theorem callk_len : CallK X (.builtin "len") (rLenK X.K) := by
  intro pins s σ H xs us Q I r h
  have hn := line63
  rcases h with ⟨z, rfl, hz, q⟩ | ⟨p, ys, rfl, hq, q⟩
  · obtain ⟨u, rfl, t, rfl⟩ := vals1 r
    exact len_str (by omega) (ev_tok I (x := .int z.length) ⟨_, rfl⟩ q)
  · obtain ⟨u, rfl, rx⟩ := vals1 r
    cases rx
    obtain ⟨its, r', pl, hz⟩ := I.list hq
    have hlen := r'.length
    exact Calls.call_len_list pl.isList (by simp only [List.size_toArray] <;> omega) (by rw [List.size_toArray, ← hlen]; exact ev_tok I (x := .int ys.length) ⟨s.toks + 1, rfl⟩ q)
theorem callk_list : CallK X (.type "list") (fun xs H Q => ∃ p ys, xs = [.ref p] ∧ SqL X.K H p ys ∧ ∀ l, H l = none → Q (.ref l) (upd H l (.lst ys))) := by
  intro pins s σ H xs us Q I r h
  obtain ⟨p, ys, rfl, hq, q⟩ := h
  obtain ⟨u, rfl, rx⟩ := vals1 r
  cases rx
  obtain ⟨its, r', pl, hz⟩ := I.list hq
  have hlen := r'.length
  obtain ⟨o, ho, hc, n, hd⟩ := pl.isList
  exact call_list_seq p (.inl rfl) ho hc hd (fun h' c' kp e => ev_lst (k := s.toks) I r' hz kp e q) (by simp only [List.size_toArray] <;> omega)
def rJoinK (K : PySem.W.Frag) : V → List V → Hp → VK → Prop := fun x xs H Q => ∃ a p, ∃ ys : List Str, x = .str a ∧ xs = [.ref p] ∧ SqL K H p (ys.map V.str) ∧ (ys.map (·.length)).sum + ys.length * a.length ≤ 16777216 ∧ Q (.str (Txt.join a ys)) H
theorem mtk_join : MtK X "str.join" (rJoinK X.K) := by
  intro pins s σ H x xs v us Q I rx rs h
  obtain ⟨a, p, ys, rfl, rfl, hp, hz, h⟩ := h
  obtain ⟨t, rfl⟩ := rx
  cases rs with
  | cons r1 rs =>
    cases rs
    cases r1
    obtain ⟨its, r, ⟨o, n, ho, hc, _, hd⟩, _⟩ := I.list hp
    exact PyProof.Rows.join_list (items := its.toArray) ⟨o, ho, hc, n, hd⟩ (by rw [List.toList_toArray]; exact strs_of_vals r) hz fun t' k => ev_tok I (x := .str _) ⟨t', rfl⟩ h
end
end DD

set_option Elab.async false
set_option linter.all false
set_option maxRecDepth 100000
set_option maxHeartbeats 4000000
/-! DD10: the K-rules of expressions, tests, statements, loops, calls. -/
namespace DD
open PySem PySem.Spec PyProof.Rows L2 Evl

section
variable {X : Cx} {ν : List Str} {a b c e o : Expr} {es : List Expr} {ta tb tc te to : TE} {t : TA} {tA tB' : TT} {pos p p2 p3 apos cpos : Pos} {x : Str}
theorem pek_var {i : Nat} {x : Str} {pos : Pos} (hN : X.N[i]? = some x) (hv : Vis X.env.scope x) (hd : (x == ("__debug__" : Str)) = false := by decide) (hcd : (x == ("__classdict__" : Str)) = false := by decide) : PEK X ν (.Name x pos) (tVar i) := by
  refine ⟨fun pins s σ H Q I h => ?_⟩
  obtain ⟨v, e, h⟩ := h
  exact raw_name hN hv I e (fun u r => (ev_same I r h).k) hd hcd
theorem pek_int {i : Int} {j : Nat} : PEK X ν (.Constant (.int i) j pos) (tC (.int i)) := ⟨fun _ _ _ H _ I h => wpAny_Constant_int (ev_tok I (x := .int i) ⟨_, rfl⟩ h).k⟩
theorem pek_bl {i : Bool} {j : Nat} : PEK X ν (.Constant (.bool i) j pos) (tC (.bl i)) := ⟨fun _ _ _ H _ I h => Constant_bool (ev_same I (x := .bl i) rfl h).k⟩
theorem pek_non {j : Nat} : PEK X ν (.Constant .none j pos) (tC .non) := ⟨fun _ _ _ H _ I h => Constant_none (ev_same I (x := .non) rfl h).k⟩
theorem pek_str {z : Str} {j : Nat} : PEK X ν (.Constant (.str z) j pos) (tC (.str z)) := ⟨fun _ _ _ H _ I h => Calls.Constant_str (ev_tok I (x := .str z) ⟨_, rfl⟩ h).k⟩
theorem pek_glob {v : V} {u : Value} (hg : Gl X x) (hm : X.mg x = some u) (r : RelV v u) (hd : (x == ("__debug__" : Str)) = false := by decide) : PEK X ν (.Name x pos) (tC v) :=
  ⟨fun _ _ _ H _ I h => ld_glob I hg hm (ev_same I r h).k hd⟩
theorem pek_bltn {v : V} {u : Value} (hg : Gl X x) (hm : X.mg x = none) (hv : bootBuiltins x = some u) (r : RelV v u) (hn : x ≠ "__name__" := by decide) (hd : (x == ("__debug__" : Str)) = false := by decide) : PEK X ν (.Name x pos) (tC v) :=
  ⟨fun _ _ _ H _ I h => ld_blt I hg hm hv (ev_same I r h).k hn hd⟩
theorem binK (ha : PEK X ν a ta) (hb : PEK X ν b tb) {pins : List (Addr × Obj)} {s : Shared} {σ : L2.St} {H : Hp} {R : V → V → Hp → Prop} (I : Inv X pins σ H s)
    (h : ta σ H fun x H1 => tb σ H1 fun y H2 => R x y H2) {Q : Value → Shared → Prop} {f : Value → Value → Sem Value}
    (hf : ∀ v u s2 x y H2, Kn X ν s s2 → Fz H H2 → Inv X pins σ H2 s2 → RelV x v → RelV y u → R x y H2 → wpAny (model X.prog X.w) X.A (f v u) Q X.xe s2) :
    wpAny (model X.prog X.w) X.A (eval a X.env) (fun v s₁ => wpAny (model X.prog X.w) X.A (eval b X.env) (fun u s₂ => wpAny (model X.prog X.w) X.A (f v u) Q X.xe s₂) X.xe s₁) X.xe s := by
  refine thn (ha.run pins s σ H _ I h) fun v s1 ⟨k1, x, H1, f1, I1, r1, q1⟩ => ?_
  refine thn (hb.run pins s1 σ H1 _ I1 q1) fun u s2 ⟨k2, y, H2, f2, I2, r2, q2⟩ => ?_
  exact hf v u s2 x y H2 (k1.trans k2) (f1.trans f2) I2 r1 r2 q2
theorem pek_op {op : Operator} {r : R2} (ho : OpK X (binaryOp op) r) (ha : PEK X ν a ta) (hb : PEK X ν b tb) : PEK X ν (.BinOp a op b pos) (tOp r ta tb) := by
  refine ⟨fun pins s σ H Q I h => ?_⟩
  exact wpAny_BinOp (binK ha hb I h fun v u s2 x y H2 k f I2 rx ry q => thn (ho pins s2 σ H2 x y v u Q I2 rx ry q) fun _ _ z => EK.from k f z.k)
theorem pek_cmp {op : CmpOp} {r : R2} (ho : OpK X (compareOp op) r) (ha : PEK X ν a ta) (hb : PEK X ν b tb) (hm : behindInMarks op b = false) : PEK X ν (.Compare a [op] [b] pos) (tOp r ta tb) := by
  refine ⟨fun pins s σ H Q I h => ?_⟩
  exact wpAny_Compare1 (binK ha hb I h fun v u s2 x y H2 k f I2 rx ry q => thn (ho pins s2 σ H2 x y v u Q I2 rx ry q) fun _ _ z => EK.from k f z.k) hm
theorem pek_ix {r : R2} (hr : IxK X r) (ha : PEK X ν a ta) (hb : PEK X ν b tb) (hs : PlainIx b) : PEK X ν (.Subscript a b pos) (tOp r ta tb) := by
  refine ⟨fun pins s σ H Q I h => ?_⟩
  exact Subscript_ (binK ha hb I h fun v u s2 x y H2 k f I2 rx ry q => thn (hr a b pins s2 σ H2 x y v u Q I2 rx ry q (hs _ _)) fun _ _ z => EK.from k f z.k)
theorem pok_none : POK X ν none tNoPart := by
  refine ⟨fun pins s σ H Q I h => ?_⟩
  rw [evalPart_none]
  exact wpAny_pure ⟨Kn.refl, none, H, Fz.refl, I, .none, h⟩
theorem pok_some (h : PEK X ν e te) : POK X ν (some e) (tPart te) := by
  refine ⟨fun pins s σ H Q I hw => ?_⟩
  rw [evalPart_some]
  refine thn (h.run pins s σ H _ I hw) fun u s1 ⟨k1, x, H1, f1, I1, r1, q1⟩ => ?_
  obtain ⟨i, rfl, q⟩ := q1
  obtain ⟨t, rfl⟩ := r1
  exact ⟨k1, some i, H1, f1, I1, .int i t, q⟩
theorem pek_sl {lo hi : Option Expr} {tl th : TO} {r : V → Option Int → Option Int → Hp → VK → Prop} (hr : SlK X r) (he : PEK X ν e te) (hl : POK X ν lo tl) (hu : POK X ν hi th) : PEK X ν (.Subscript e (.Slice lo hi none p2) pos) (tSl r te tl th) := by
  refine ⟨fun pins s σ H Q I h => ?_⟩
  refine Subscript_ (thn (he.run pins s σ H _ I h) fun v s1 ⟨k1, x, H1, f1, I1, r1, q1⟩ => ?_)
  refine wpAny_Slice (thn (hl.run pins s1 σ H1 _ I1 q1) fun vl s2 ⟨k2, l, H2, f2, I2, pl, q2⟩ => thn (hu.run pins s2 σ H2 _ I2 q2) fun vu s3 ⟨k3, u, H3, f3, I3, pu, q3⟩ => ?_)
  rw [evalPart_none]
  refine wpAny_pure ?_
  have I4 : Inv X pins σ H3 { s3 with heap := s3.heap.push { cls := .type "slice", data := .fields #[vl, vu, .none] } } := I3.kept (t' := s3.toks) fun b ob q => Heap.get?_push_of_some _ q
  have k4 : Kn X ν s3 { s3 with heap := s3.heap.push { cls := .type "slice", data := .fields #[vl, vu, .none] } } := Kx.kn fun b u e => Heap.get?_push_of_some _ e
  obtain ⟨T, id, hT, ht, hg⟩ := hr pins { s3 with heap := s3.heap.push { cls := .type "slice", data := .fields #[vl, vu, .none] } } σ H3 x v vl vu l u s3.heap.objs.size Q I4 r1 (Heap.IsSliceOf.new ..) pl pu q3
  show wpAny (model X.prog X.w) X.A (subscriptTail e (.Slice lo hi none p2) v (.ref s3.heap.objs.size)) (EK X ν pins σ s H Q) X.xe { s3 with heap := s3.heap.push { cls := .type "slice", data := .fields #[vl, vu, .none] } }
  exact tail_any (ops := [.ref s3.heap.objs.size, v]) ht hT (thn hg fun _ _ z => EK.from (((k1.trans k2).trans k3).trans k4) ((f1.trans f2).trans f3) z.k) (by with_unfolding_all rfl)
theorem pek_rev {k : Nat} {q1 q2 q3 : Pos} (he : PEK X ν e te) : PEK X ν (.Subscript e (.Slice none none (some (.UnaryOp .USub (.Constant (.int 1) k q1) q2)) q3) pos) (tRevL X.K te) := by
  refine ⟨fun pins s σ H Q I h => ?_⟩
  refine Subscript_ (thn (he.run pins s σ H _ I h) fun v s1 ⟨k1, x, H1, f1, I1, r1, q1'⟩ => ?_)
  obtain ⟨a, xs, ex, hx, q⟩ := q1'
  subst ex
  cases r1
  refine wpAny_Slice ?_
  rw [evalPart_none]
  refine wpAny_pure (wpAny_pure ?_)
  rw [evalPart_some]
  refine UnaryOp_ (wpAny_Constant_int (neg_int ?_))
  have I5 : ∀ tk w, Inv X pins σ H1 { s1 with toks := tk, heap := s1.heap.push { cls := .type "slice", data := .fields #[.none, .none, w] } } := fun tk w => (I1.tok tk).kept (t' := tk) fun b ob q => Heap.get?_push_of_some _ q
  obtain ⟨its, r, ht, hz⟩ := (I5 (s1.toks + 1 + 1) (.int (-1) (s1.toks + 1))).list hx
  have hlen := r.length
  show wpAny (model X.prog X.w) X.A (subscriptTail e (.Slice none none (some (.UnaryOp .USub (.Constant (.int 1) k q1) q2)) q3) (.ref a) (.ref s1.heap.objs.size)) (EK X ν pins σ s H Q) X.xe { s1 with toks := s1.toks + 1 + 1, heap := s1.heap.push { cls := .type "slice", data := .fields #[.none, .none, .int (-1) (s1.toks + 1)] } }
  refine tail_any (ops := [.ref a, .ref s1.heap.objs.size]) ht.isList.typeIs (PySem.slot_list_getitem.lookup) ?_ (by with_unfolding_all rfl)
  refine wpAny_getItem_list_slice ht.isList (Heap.IsSliceOf.new _ .none .none (.int (-1) (s1.toks + 1))) .none .none (.int (-1) (s1.toks + 1)) (by decide) ?_ (by rw [List.size_toArray]; omega)
  rw [PySem.W.krv_pick]
  refine EK.from (k1.trans (Kx.kn (s' := { s1 with toks := s1.toks + 1 + 1, heap := s1.heap.push { cls := .type "slice", data := .fields #[.none, .none, .int (-1) (s1.toks + 1)] } }) fun b u e => Heap.get?_push_of_some _ e)) f1
    (ev_lst (vs := xs.reverse) (k := s1.toks + 1 + 1) (I5 _ _) r.reverse (by rw [List.length_reverse]; exact hz) (fun b u e => Heap.get?_push_of_some _ e) (Heap.get?_push_size _ rfl) q).k
theorem pak_nil : PAK X ν [] tNil := ⟨fun _ _ _ _ H Q I h => Calls.spliced_nil ⟨Kn.refl, [], H, Fz.refl, I, .nil, h⟩⟩
theorem pak_cons (ha : PEK X ν e te) (hr : PAK X ν es t) (hs : starEach (e :: es) X.env = (false, eval e X.env) :: starEach es X.env := by rfl) : PAK X ν (e :: es) (tCons te t) := by
  refine ⟨fun pos pins s σ H Q I h => ?_⟩
  rw [hs]
  show wpAny _ _ (spliced ((false, eval e X.env) :: backTo pos (starEach es X.env))) _ _ s
  refine Calls.spliced_cons (thn (ha.run pins s σ H _ I h) fun u s1 ⟨k1, x, H1, f1, I1, r1, q1⟩ => ?_)
  exact thn (hr.run pos pins s1 σ H1 _ I1 q1) fun us s2 ⟨k2, xs, H2, f2, I2, r2, q2⟩ => ⟨k1.trans k2, x :: xs, H2, f1.trans f2, I2, .cons r1 r2, q2⟩
theorem pek_lst (h : PAK X ν es t) : PEK X ν (.List es pos) (tLst t) := by
  refine ⟨fun pins s σ H Q I hq => ?_⟩
  refine wpAny_List_spliced (thn (h.run pos pins s σ H _ I hq) fun us s1 ⟨k1, xs, H1, f1, I1, r, z, q⟩ => ⟨by rw [← r.length]; exact z, ?_⟩)
  exact EK.from k1 f1 (ev_lst (k := s1.toks) I1 r z (fun b u e => Heap.get?_push_of_some _ e) (Heap.get?_push_size _ rfl) q).k
theorem pek_callB {id : String} {r : List V → Hp → VK → Prop} (hc : CallK X (.builtin id) r) (hg : Gl X x) (hm : X.mg x = none) (hv : bootBuiltins x = some (.builtin id)) (ha : PAK X ν (e :: es) t) (hn : x ≠ "__name__" := by decide) (hdb : (x == ("__debug__" : Str)) = false := by decide)
    (he : starEach (e :: es) X.env = (false, eval e X.env) :: starEach es X.env := by rfl) (hpl : (backTo pos (starEach es X.env)).any (·.1) = false := by rfl) : PEK X ν (.Call (.Name x p) (e :: es) [] pos) (tCB r t) := by
  refine ⟨fun pins s σ H Q I h => ?_⟩
  refine wpAny_Call_Name_kw (ld_blt I hg hm hv ?_ hn hdb)
  exact PyProof.Rows.callWith_builtin1 (thn (ha.run pos pins s σ H _ I h) fun us s1 ⟨k1, vs, H1, f1, I1, r1, q1⟩ => thn (hc pins s1 σ H1 vs us Q I1 r1 q1) fun _ _ z => EK.from k1 f1 z.k) he hpl
theorem pek_callTy {T : String} {r : List V → Hp → VK → Prop} (hc : CallK X (.type T) r) (hg : Gl X x) (hm : X.mg x = none) (hv : bootBuiltins x = some (.type T)) (ha : PAK X ν (e :: es) t) (hn : x ≠ "__name__" := by decide) (hdb : (x == ("__debug__" : Str)) = false := by decide)
    (he : starEach (e :: es) X.env = (false, eval e X.env) :: starEach es X.env := by rfl) (hpl : (backTo pos (starEach es X.env)).any (·.1) = false := by rfl) : PEK X ν (.Call (.Name x p) (e :: es) [] pos) (tCB r t) := by
  refine ⟨fun pins s σ H Q I h => ?_⟩
  refine wpAny_Call_Name_kw (ld_blt I hg hm hv ?_ hn hdb)
  exact PyProof.Rows.callWith_type1 (thn (ha.run pos pins s σ H _ I h) fun us s1 ⟨k1, vs, H1, f1, I1, r1, q1⟩ => thn (hc pins s1 σ H1 vs us Q I1 r1 q1) fun _ _ z => EK.from k1 f1 z.k) he hpl
theorem pek_bm {T id : String} {name : Str} {r : V → List V → Hp → VK → Prop} (pa : PlainAttrs T) (slot : PySem.Slot T name id) (hty : typeOf (.builtin id) = pure (.type "method_descriptor")) (hm : MtK X id r) (ho : PEK X ν o to) (ha : PAK X ν (e :: es) t)
    (hbase : attributeBase o name X.env (eval o X.env) = eval o X.env := by rfl)
    (hfew : ((backTo cpos (starEach (e :: es) X.env)).all (fun x => !x.1) && (backToKw cpos (keywordEach [] X.env)).all (fun x => x.1.isSome)
      && decide ((e :: es).length + ([] : List Keyword).length + (if ([] : List Keyword).isEmpty then 0 else 1) < 30)) = true := by rfl)
    (hline : (apos.endLine == cpos.line) = true := by rfl) (hs : starEach (e :: es) X.env = (false, eval e X.env) :: starEach es X.env := by rfl) (hplain : (backTo cpos (starEach es X.env)).any (·.1) = false := by rfl) :
    PEK X ν (.Call (.Attribute o name apos) (e :: es) [] cpos) (tBM X.K T r to t) := by
  refine ⟨fun pins s σ H Q I h => ?_⟩
  refine wpAny_Call_method_late hbase hfew hline rfl (thn (ho.run pins s σ H _ I h) fun v s1 ⟨k1, x, H1, f1, I1, r1, ty, q1⟩ => ?_)
  obtain ⟨h1, h2⟩ := tyV_is I1 r1 ty
  refine ⟨T, id, pa, slot, hty, h1, h2, ?_⟩
  have hA := ha.run cpos pins s1 σ H1 _ I1 q1
  rw [hs] at hA ⊢
  refine Calls.callWith_builtin (by show (false || (backTo cpos (starEach es X.env)).any (·.1)) = false; rw [hplain] <;> rfl) (Calls.evalArgs_plain ?_)
  exact thn hA fun us s2 ⟨k2, vs, H2, f2, I2, r2, q2⟩ => thn (hm pins s2 σ H2 x vs v us Q I2 r1 r2 q2) fun _ _ z => EK.from (k1.trans k2) (f1.trans f2) z.k
/-! ### calls of defs -/
theorem Inv.afterK {pins : List (Addr × Obj)} {σ : L2.St} {H : Hp} {s s' : Shared} {Q : VK} {u : Value} (I : Inv X pins σ H s) (h : CE X.stack X.prog X.w H s Q u s') : EK X ν pins σ s H Q u s' := by
  have un' : ∃ H', Un (frs X.stack) [] H H' s.heap s'.heap := by
    obtain ⟨_, H', _, _, un, _⟩ := id h
    exact ⟨H', un⟩
  obtain ⟨v, H', os, bare, un, hok, r, q⟩ := h
  obtain ⟨hh, g, d, t, os'⟩ := s'
  obtain rfl : os' = s.os := os
  refine ⟨fun m hm => ?_, v, H', un.frzs, I.call (h' := hh) (g' := g) (d' := d) (t' := t) (ch := []) un hok bare (fun b z => absurd z (by simp)), r, q⟩
  obtain ⟨o', es', ep', ho', r'⟩ := hm
  obtain ⟨sl, hL⟩ := un.any ho' I.free (by simp)
  exact ⟨m, ⟨_, es', ep', hL, r'⟩, fun _ _ => rfl⟩
theorem run_fnK {CX : CXT} {k : Nat} {f : Addr} {fd : FuncData} {ps : List Str} {sp : Sp} {dvs : List V} {ds : List Value} {E : XK} {pins : List (Addr × Obj)} {σ : L2.St} {H : Hp} {s : Shared} {Q : VK} {us : List Value} {vs : List V}
    (F : FnOk X.prog X.w X.K X.mg X.base CX k f fd ps sp) (hr : Room k X.A) (hb : Binds X.K fd ps ds) (hd : Vals dvs ds) (hx : Passes CX X E)
    (I : Inv X pins σ H s) (r : Vals vs us) (h : sp (vs ++ dvs) H Q E) : wpAny (model X.prog X.w) X.A (call (.ref f) us) (EK X ν pins σ s H Q) X.xe s := by
  have r2 : Vals (vs ++ dvs) (us ++ ds) := r.append hd
  have hl : (us ++ ds).length = ps.length := by rw [← r2.length]; exact F.len _ _ _ _ h
  refine wpAny_call (codeAny_mono (F.run X.A X.stack s H ⟨us, []⟩ (us ++ ds) (vs ++ dvs) Q E hr I.env0 (hb s us I.kIn hl) r2 h) fun r s' hq => ?_)
  cases r with
  | error e => exact hx pins σ H s e s' I hq
  | ok fl =>
    cases fl with
    | ret u => exact Inv.afterK I hq
    | next => exact False.elim hq
    | brk => exact False.elim hq
    | cont => exact False.elim hq
theorem pek_call {CX : CXT} {k : Nat} {f : Addr} {fd : FuncData} {ps : List Str} {sp : Sp} {dvs : List V} {ds : List Value} {E : XK} (F : FnOk X.prog X.w X.K X.mg X.base CX k f fd ps sp) (hr : Room k X.A) (hg : Gl X x) (hm : X.mg x = some (.ref f)) (hk : PySem.W.keepIn X.K (.ref f) = true) (hb : Binds X.K fd ps ds) (hd : Vals dvs ds) (hx : Passes CX X E)
    (ha : PAK X ν (e :: es) t) (hdb : (x == ("__debug__" : Str)) = false := by decide) (he : starEach (e :: es) X.env = (false, eval e X.env) :: starEach es X.env := by rfl) (hpl : (backTo pos (starEach es X.env)).any (·.1) = false := by rfl) :
    PEK X ν (.Call (.Name x p) (e :: es) [] pos) (tCall sp dvs E t) := by
  refine ⟨fun pins s σ H Q I h => ?_⟩
  refine wpAny_Call_Name_kw (ld_glob I hg hm ?_ hdb)
  refine PySem.W.callWith_K (h₀ := X.base) I.ok.mod.kin hk (thn (ha.run pos pins s σ H _ I h) fun us s1 ⟨k1, vs, H1, f1, I1, r, q⟩ => ⟨I1.kIn, ?_⟩) he hpl
  exact thn (run_fnK F hr hb hd hx I1 r q) fun _ _ z => EK.from k1 f1 z
/-! ### tests -/
theorem ptk_cmp {op : CmpOp} {r : R2} (ho : OpK X (compareOp op) r) (ha : PEK X ν a ta) (hb : PEK X ν b tb) (hm : behindInMarks op b = false) : PTK X ν (.Compare a [op] [b] pos) (tTest (tOp r ta tb)) := by
  refine ⟨fun pins s σ H Q I h => ?_⟩
  refine wpAny_isTrue_Compare1 (thn (ha.run pins s σ H _ I h) fun v s1 ⟨k1, x, H1, f1, I1, r1, q1⟩ => thn (hb.run pins s1 σ H1 _ I1 q1) fun u s2 ⟨k2, y, H2, f2, I2, r2, q2⟩ =>
    thn (ho pins s2 σ H2 x y v u _ I2 r1 r2 q2) fun c s3 ⟨k3, z, H3, f3, I3, r3, k, e, q3⟩ => ?_) hm
  subst e
  cases r3
  exact wpAny_truthy_bool ⟨(k1.trans k2).trans (Kx.kn k3), H3, (f1.trans f2).trans f3, I3, q3⟩
theorem ptk_val (h : PEK X ν e te) (he : ∀ whole, isTrue e X.env whole = (do let v ← whole; standAt e.pos; holding [v] (truthy v)) := by intro _; rfl) : PTK X ν e (tB te) := by
  refine ⟨fun pins s σ H Q I hw => ?_⟩
  refine isTrue_plain (thn (h.run pins s σ H _ I hw) fun v s1 ⟨k1, x, H1, f1, I1, r1, q1⟩ => ?_) (he _)
  obtain ⟨d, rfl, q⟩ := q1
  cases r1
  exact wpAny_truthy_bool ⟨k1, H1, f1, I1, q⟩
theorem pwk_or1 (ha : PTK X ν a tA) : PWK X ν (.BoolOp .Or [a] pos) tA := by
  refine ⟨fun wh pins s σ H Q I h => ?_⟩
  refine isTrue_or (thn (ha.run pins s σ H Q I h) fun c s1 e => ?_)
  cases c with
  | false => exact isTrue_or_nil e
  | true => exact e
theorem pwk_or {rest : List Expr} (ha : PTK X ν a tA) (hb : PWK X ν (.BoolOp .Or (b :: rest) pos) tB') : PWK X ν (.BoolOp .Or (a :: b :: rest) pos) (tOr tA tB') := by
  refine ⟨fun wh pins s σ H Q I h => ?_⟩
  refine isTrue_or (thn (ha.run pins s σ H _ I h) fun c s1 ⟨k1, H1, f1, I1, q1⟩ => ?_)
  cases c with
  | true => exact ⟨k1, H1, f1, I1, q1⟩
  | false => exact thn (hb.run wh pins s1 σ H1 Q I1 q1) fun _ _ z => TK.from k1 f1 z
theorem PWK.pt (h : PWK X ν e tA) : PTK X ν e tA := ⟨h.run _⟩
theorem ptk_not (ha : PTK X ν a tA) : PTK X ν (.UnaryOp .Not a pos) (tNot tA) := by
  refine ⟨fun pins s σ H Q I h => ?_⟩
  exact isTrue_not (ha.run pins s σ H (fun c H1 => Q (!c) H1) I h)
end

/-! ### statements -/
section
variable {X : Cx} {ν : List Str} {st : Stmt} {sts : List Stmt} {t u : TS} {e : Expr} {te : TE} {pos : Pos} {x : Str}
theorem pssk_nil : PSsK X ν [] tNext := ⟨fun _ _ σ H _ I h => wpAny_execs_nil ⟨Kn.refl, σ, H, Fz.refl, I, h⟩⟩
theorem pssk_cons (h1 : PSK X ν st t) (h2 : PSsK X ν sts u) : PSsK X ν (st :: sts) (tSeq t u) := by
  refine ⟨fun pins s σ H D I h => ?_⟩
  refine wpAny_execs_cons (thn (h1.run pins s σ H { D with nx := u D } I h) fun f s1 q => ?_)
  obtain ⟨k1, q⟩ := q
  cases f with
  | next =>
    obtain ⟨σ', H', f1, I', q⟩ := q
    exact thn (h2.run pins s1 σ' H' D I' q) fun _ _ z => SK.from k1 f1 z
  | ret v => exact ⟨k1, q⟩
  | brk => exact ⟨k1, q⟩
  | cont => exact ⟨k1, q⟩
theorem pssk_one (h1 : PSK X ν st t) : PSsK X ν [st] t := by
  refine ⟨fun pins s σ H D I h => ?_⟩
  refine wpAny_execs_cons (thn (h1.run pins s σ H D I h) fun f s1 q => ?_)
  cases f with
  | next => exact wpAny_execs_nil q
  | ret v => exact q
  | brk => exact q
  | cont => exact q
theorem psk_ret (he : PEK X ν e te) : PSK X ν (.Return (some e) pos) (tRet te) := by
  refine ⟨fun pins s σ H D I h => ?_⟩
  exact wpAny_Return_some (thn (he.run pins s σ H _ I h) fun v s1 ⟨k1, x, H1, f1, I1, r1, q1⟩ => ⟨k1, x, σ, H1, f1, I1, r1, q1⟩)
theorem psk_if {c : Expr} {a b : List Stmt} {tc : TT} (hc : PTK X ν c tc) (ha : PSsK X ν a t) (hb : PSsK X ν b u) : PSK X ν (.If c a b pos) (tIfS tc t u) := by
  refine ⟨fun pins s σ H D I h => ?_⟩
  refine wpAny_If (thn (hc.run pins s σ H _ I h) fun d s1 ⟨k1, H1, f1, I1, q1⟩ => ?_)
  cases d with
  | true => exact thn (ha.run pins s1 σ H1 D I1 q1) fun _ _ z => SK.from k1 f1 z
  | false => exact thn (hb.run pins s1 σ H1 D I1 q1) fun _ _ z => SK.from k1 f1 z
theorem Ns.inj {h : Heap} {a : Addr} {m m' : Str → Option Value} (x : h.Ns a m) (y : h.Ns a m') : m = m' := by
  obtain ⟨o, es, ep, e, d, _, f⟩ := x
  obtain ⟨o', es', ep', e', d', _, f'⟩ := y
  rw [e] at e'
  cases e'
  rw [d] at d'
  cases d'
  funext n
  exact (f n).symm.trans (f' n)
/-- a local name is stored: the frame behind -/
theorem store_k {M : Model} {A : Around} {E : Value → Shared → Prop} {pins : List (Addr × Obj)} {σ : L2.St} {H : Hp} {s : Shared} {i : Nat} {v : V} {u : Value} {m : Str → Option Value} {Q : Unit → Shared → Prop} (I : Inv X pins σ H s) (hN : X.N.Nodup) (hi : X.N[i]? = some x)
    (hk : X.env.scope.names.lookup x = some .local) (r : RelV v u) (hm : s.heap.Ns X.env.locals m)
    (h : ∀ s', Inv X pins (σ.set i (some v)) H s' → s'.heap.Ns X.env.locals (fun y => if y = x then some u else m y) → s.toks ≤ s'.toks → Q () s') : wpAny M A (storeName X.env x u) Q E s := by
  obtain ⟨m0, hn, hl⟩ := id I.loc
  cases Ns.inj hn hm
  have hcls : (X.env.scope.kind == .class || (X.env.scope.kind == .module && X.env.locals != X.env.globals)) = false := by rw [I.ok.kind]; rfl
  have hiσ : i < σ.length := by rw [I.len]; exact (List.getElem?_eq_some_iff.mp hi).1
  have cne := I.cne
  refine wpAny_storeName_local hk hn (fun h' hn' hs => ?_) hcls
  obtain ⟨oL, _, _, hoL, _⟩ := id hn
  have tracked : HOk X.prog X.w H h' := fun b ob e => by
    refine (I.hok b ob e).stay (fun c w' hc q => (hs.2 c ?_).trans q) (fun _ q => q) fun _ _ q => q
    rintro rfl
    rcases hc with rfl | hc
    · rw [I.free] at e; cases e
    · rw [I.free] at hc; cases hc
  refine h _ ⟨I.ok, I.os, I.bare, ⟨fun b o e n hb hx => ?_, fun b o e n hb hx => ?_, I.base.free, fun b o e hx => ?_, I.base.tups, I.base.frzs, I.base.tbls⟩, ⟨_, hn', fun j y v' e1 e2 e3 => ?_⟩, fun y c e => ?_, I.free, I.freeC, fun p hp => ?_, tracked, by simpa using I.len⟩ hn' (Nat.le_succ _)
  · exact (hs.2 b (Nat.ne_of_lt (Nat.lt_of_lt_of_le (Heap.lt_size e) I.ok.above))).trans (I.base.keep b o e n hb hx)
  · obtain ⟨sl, e1⟩ := I.base.slot b o e n hb hx
    exact ⟨sl, (hs.2 b (Nat.ne_of_lt (Nat.lt_of_lt_of_le (Heap.lt_size e) I.ok.above))).trans e1⟩
  · obtain ⟨o', e1⟩ := I.base.there b o e hx
    exact ⟨o', (hs.2 b (Nat.ne_of_lt (Nat.lt_of_lt_of_le (Heap.lt_size e) I.ok.above))).trans e1⟩
  · by_cases hj : j = i
    · subst hj
      rw [hi] at e1; cases e1
      rw [List.getElem?_set_self hiσ] at e2
      cases e2
      exact ⟨u, r, .inl ⟨hk, by simp⟩⟩
    · rw [List.getElem?_set_ne (Ne.symm hj)] at e2
      obtain ⟨u', r', q⟩ := hl j y v' e1 e2 e3
      refine ⟨u', r', ?_⟩
      rcases q with ⟨k, e⟩ | ⟨k, c, e, z⟩
      · refine .inl ⟨k, ?_⟩
        have : y ≠ x := fun e => hj (nodup_ix hN e1 (e ▸ hi))
        simp [this, e]
      · exact .inr ⟨k, c, e, z.sameBut hs (cne y c e)⟩
  · obtain ⟨w', z⟩ := I.cell y c e
    exact ⟨w', z.sameBut hs (cne y c e)⟩
  · obtain ⟨e, n, ne, nf, d⟩ := I.pin p hp
    exact ⟨(hs.2 p.1 ne).trans e, n, ne, nf, d⟩
structure PGK (X : Cx) (ν : List Str) (target : Expr) (t : TG) : Prop where
  run : ∀ (pins : List (Addr × Obj)) (s : Shared) (σ : L2.St) (H : Hp) (v : V) (u : Value) (Q : L2.St → Hp → Prop), Inv X pins σ H s → RelV v u → t v σ H Q →
    wpAny (model X.prog X.w) X.A (assign target X.env u) (fun _ s' => Kn X ν s s' ∧ NK X pins H Q s') X.xe s
theorem pgk_name {i : Nat} (hN : X.N.Nodup) (hi : X.N[i]? = some x) (hk : X.env.scope.names.lookup x = some .local) (hν : x ∉ ν) : PGK X ν (.Name x pos) (gName i) := by
  refine ⟨fun pins s σ H v u Q I r h => ?_⟩
  obtain ⟨m, hm, _⟩ := id I.loc
  refine wpAny_assign_Name (store_k I hN hi hk r hm fun s' I' hn' _ => ⟨fun m0 h0 => ⟨_, hn', fun y hy => ?_⟩, _, H, Fz.refl, I', h⟩)
  cases Ns.inj hm h0
  have : y ≠ x := fun e => hν (e ▸ hy)
  rw [if_neg this]
theorem psk_set {i : Nat} {pos' : Pos} (hN : X.N.Nodup) (hi : X.N[i]? = some x) (hk : X.env.scope.names.lookup x = some .local) (hν : x ∉ ν) (he : PEK X ν e te) (hs : swapsWith e (some (.Name x pos')) pos.line X.env = pure false := by rfl) :
    PSK X ν (.Assign [.Name x pos'] e pos) (tAsg te (gName i)) := by
  refine ⟨fun pins s σ H D I h => ?_⟩
  refine wpAny_Assign_Name (thn (he.run pins s σ H _ I h) fun v s1 ⟨k1, y, H1, f1, I1, r1, q1⟩ => ?_) hs
  obtain ⟨m, hm, _⟩ := id I1.loc
  refine store_k I1 hN hi hk r1 hm fun s' I' hn' _ => ⟨k1.trans fun m0 h0 => ⟨_, hn', fun z hz => ?_⟩, _, H1, f1, I', q1⟩
  cases Ns.inj hm h0
  have : z ≠ x := fun e => hν (e ▸ hz)
  rw [if_neg this]

/-! ### loops -/
structure TurnK (P : Program) (w : World) (K : PySem.W.Frag) (tg : Expr) (J : It) (fp : List Addr) (it : Addr) (tn : Nat → Heap → Prop) : Prop where
  mem : it ∈ fp
  obj : ∀ i h, tn i h → ∀ b ∈ fp, ∃ o, h.get? b = some o ∧ ∀ v, o.data ≠ .cell v
  keep : ∀ i h h', tn i h → (∀ b ∈ fp, ∀ o, h.get? b = some o → h'.get? b = some o) → tn i h'
  item : ∀ (X : Cx), X.prog = P → X.w = w → X.K = K → X.calm = true → ∀ (i : Nat) (pins : List (Addr × Obj)) (s : Shared) (σ : L2.St) (H : Hp) (E : Value → Shared → Prop), Inv X pins σ H s → (∀ b ∈ fp, FpOk X pins H b) → tn i s.heap → J.go i H →
    wpAny (model P w) X.A (pyNext (.ref it)) (fun r s1 => ∃ u, r = some u ∧
      wpAny (model P w) X.A (letOwnedTupleGo tg (.ref it) u) (fun _ s2 => (∀ b o, b ∉ fp → s.heap.get? b = some o → s2.heap.get? b = some o) ∧ ∃ x, Inv X pins σ H s2 ∧ RelV x u ∧ J.yld i H x H ∧ tn (i + 1) s2.heap) E s1) E s
  done : ∀ (X : Cx), X.prog = P → X.w = w → X.K = K → X.calm = true → ∀ (i : Nat) (pins : List (Addr × Obj)) (s : Shared) (σ : L2.St) (H : Hp) (E : Value → Shared → Prop), Inv X pins σ H s → (∀ b ∈ fp, FpOk X pins H b) → tn i s.heap → J.stop i H →
    wpAny (model P w) X.A (pyNext (.ref it)) (fun r s1 => r = none ∧ (∀ b o, b ∉ fp → s.heap.get? b = some o → s1.heap.get? b = some o) ∧ Inv X pins σ H s1) E s
  self : ∀ (A : Around) (i : Nat) (s : Shared) (Q : Value → Shared → Prop) (E : Value → Shared → Prop), tn i s.heap → Q (.ref it) s → wpAny (model P w) A (pyIter (.ref it)) Q E s
theorem turnk_list {P : Program} {w : World} {K : PySem.W.Frag} {tg : Expr} (a it : Addr) : TurnK P w K tg (Itl K a) [it] it (fun i h => h.IsListIter it a i) where
  mem := by simp
  obj := fun i h st b hb => by
    have e : b = it := by simpa using hb
    subst e
    obtain ⟨o, e, c, d⟩ := st
    exact ⟨o, e, fun v z => by rw [d] at z; cases z⟩
  keep := fun i h h' st k => st.at fun o e => k it (by simp) o e
  item := by
    intro X hP hw hK hc i pins s σ H E I hf st hg
    subst hP hw hK
    obtain ⟨xs, x, hq, hx⟩ := hg
    obtain ⟨its, rv, p, hz⟩ := I.list hq
    obtain ⟨u, hu, ru⟩ := rv.get hx
    obtain ⟨f0, f1, f2, f3, f4, f5⟩ := hf it (by simp)
    refine wpAny_pyNext_list_item st p.isList (x := u) (by simpa using hu) fun h' st' sb => ?_
    have I1 : Inv X pins σ H { s with heap := h' } := I.turned (t' := s.toks) (fun b o hb e => (sb.2 b hb).trans e) f0 f1 f3 f4 f5
    obtain ⟨o, e, c, d⟩ := id st'
    exact ⟨u, rfl, go_of (s := { s with heap := h' }) e c d (by decide) ⟨fun b o hb e => (sb.2 b (fun z => hb (by simp [z]))).trans e, x, I1, ru, ⟨rfl, fun ys hy => by rw [I.list_inj hy hq]; exact hx⟩, st'⟩⟩
  done := by
    intro X hP hw hK hc i pins s σ H E I hf st hg
    subst hP hw hK
    obtain ⟨xs, hq, hx⟩ := hg
    obtain ⟨its, rv, p, hz⟩ := I.list hq
    obtain ⟨f0, f1, f2, f3, f4, f5⟩ := hf it (by simp)
    have hl := rv.length
    exact wpAny_pyNext_list_end (I.ok.hd hc) st p.isList (by simp; omega) fun h' eb => ⟨rfl, fun b o hb e => eb b o (fun z => hb (by simp [z])) e, I.turned (t' := s.toks) (fun b o hb e => eb b o hb e) f0 f1 f3 f4 f5⟩
  self := fun _ _ _ _ _ st h => wpAny_pyIter_listiter st h
theorem turnk_tuple {P : Program} {w : World} {K : PySem.W.Frag} {tg : Expr} (a it : Addr) : TurnK P w K tg (Itt K a) [it] it (fun i h => h.IsTupleIter it a i) where
  mem := by simp
  obj := fun i h st b hb => by
    have e : b = it := by simpa using hb
    subst e
    obtain ⟨o, e, c, d⟩ := st
    exact ⟨o, e, fun v z => by rw [d] at z; cases z⟩
  keep := fun i h h' st k => st.at fun o e => k it (by simp) o e
  item := by
    intro X hP hw hK hc i pins s σ H E I hf st hg
    subst hP hw hK
    obtain ⟨xs, x, hq, hx⟩ := hg
    obtain ⟨its, rv, p, hz⟩ := I.tuple hq
    obtain ⟨u, hu, ru⟩ := rv.get hx
    obtain ⟨f0, f1, f2, f3, f4, f5⟩ := hf it (by simp)
    refine wpAny_pyNext_tuple_item st (show s.heap.IsTuple a its.toArray from p) (x := u) (by simpa using hu) fun h' st' sb => ?_
    have I1 : Inv X pins σ H { s with heap := h' } := I.turned (t' := s.toks) (fun b o hb e => (sb.2 b hb).trans e) f0 f1 f3 f4 f5
    obtain ⟨o, e, c, d⟩ := id st'
    exact ⟨u, rfl, go_of (s := { s with heap := h' }) e c d (by decide) ⟨fun b o hb e => (sb.2 b (fun z => hb (by simp [z]))).trans e, x, I1, ru, ⟨rfl, fun ys hy => by rw [I.tuple_inj hy hq]; exact hx⟩, st'⟩⟩
  done := by
    intro X hP hw hK hc i pins s σ H E I hf st hg
    subst hP hw hK
    obtain ⟨xs, hq, hx⟩ := hg
    obtain ⟨its, rv, p, hz⟩ := I.tuple hq
    obtain ⟨f0, f1, f2, f3, f4, f5⟩ := hf it (by simp)
    have hl := rv.length
    exact wpAny_pyNext_tuple_end (I.ok.hd hc) st (show s.heap.IsTuple a its.toArray from p) (by simp; omega) fun h' eb => ⟨rfl, fun b o hb e => eb b o (fun z => hb (by simp [z])) e, I.turned (t' := s.toks) (fun b o hb e => eb b o hb e) f0 f1 f3 f4 f5⟩
  self := fun _ _ _ _ _ st h => wpAny_pyIter_tupleiter st h
theorem turnk_range {P : Program} {w : World} {K : PySem.W.Frag} {tg : Expr} (it : Addr) (lo : Int) (n : Nat) : TurnK P w K tg (Itr lo n) [it] it (fun i h => IsRangeIter h it (lo + (i : Nat) * 1) ((n : Int) - (i : Nat)) 1) where
  mem := by simp
  obj := fun i h st b hb => by
    have e : b = it := by simpa using hb
    subst e
    exact ⟨_, st, fun v z => by
      have z' : Data.fields _ = Data.cell v := z
      cases z'⟩
  keep := fun i h h' st k => k it (by simp) _ st
  item := by
    intro X hP hw hK hc i pins s σ H E I hf st hg
    subst hP hw hK
    obtain ⟨f0, f1, f2, f3, f4, f5⟩ := hf it (by simp)
    have W := Walks.range (prog := X.prog) (w := X.w) (I.ok.hd hc) it lo 1 n
    refine W.item i s _ _ hg st fun v h' tk hv st' kk => ?_
    obtain ⟨t, rfl⟩ := hv
    have I1 : Inv X pins σ H { s with heap := h', toks := tk } := I.turned (fun b o hb e => kk b o (by simpa using hb) e) f0 f1 f3 f4 f5
    refine ⟨_, rfl, go_of (s := { s with heap := h', toks := tk }) (n := "range_iterator") st' rfl rfl (by decide) ⟨fun b o hb e => kk b o hb e, .int (lo + i), I1, ⟨t, ?_⟩, ⟨rfl, rfl⟩, st'⟩⟩
    rw [Int.mul_one]
  done := by
    intro X hP hw hK hc i pins s σ H E I hf st hg
    subst hP hw hK
    obtain ⟨f0, f1, f2, f3, f4, f5⟩ := hf it (by simp)
    exact wpAny_pyNext_range_end (I.ok.hd hc) st (by have : n ≤ i := hg; omega) fun h' eb => ⟨rfl, fun b o hb e => eb b o (fun z => hb (by simp [z])) e, I.turned (t' := s.toks) (fun b o hb e => eb b o hb e) f0 f1 f3 f4 f5⟩
  self := fun _ _ _ _ _ st h => wpAny_pyIter_rangeiter st h
def PIEK (X : Cx) (ν : List Str) (pins : List (Addr × Obj)) (σ : L2.St) (s : Shared) (H : Hp) (tg : Expr) (R : It → Hp → Prop) (itv : Value) (s2 : Shared) : Prop :=
  Kn X ν s s2 ∧ ∃ (it : Addr) (fp : List Addr) (tn : Nat → Heap → Prop) (J : It) (H' : Hp), itv = .ref it ∧ Fz H H' ∧ Inv X pins σ H' s2 ∧ TurnK X.prog X.w X.K tg J fp it tn ∧ tn 0 s2.heap ∧ (∀ b ∈ fp, FpOk X pins H' b) ∧ R J H'
structure PIK (X : Cx) (ν : List Str) (tg iter : Expr) (wi : TI) : Prop where
  run : ∀ (pins : List (Addr × Obj)) (s : Shared) (σ : L2.St) (H : Hp) (R : It → Hp → Prop), Inv X pins σ H s → wi σ H R →
    wpAny (model X.prog X.w) X.A (eval iter X.env) (fun v s1 => wpAny (model X.prog X.w) X.A (pyIter v) (PIEK X ν pins σ s H tg R) X.xe s1) X.xe s
theorem pik_list {tg l : Expr} {tl : TE} (hl : PEK X ν l tl) : PIK X ν tg l (iList X.K tl) := by
  refine ⟨fun pins s σ H R I h => ?_⟩
  refine thn (hl.run pins s σ H _ I h) fun v s1 ⟨k1, x, H1, f1, I1, r1, q1⟩ => ?_
  obtain ⟨a, e, ⟨xs, hq⟩, q⟩ := q1
  subst e
  cases r1
  obtain ⟨its, rv, p, hz⟩ := I1.list hq
  refine wpAny_pyIter_list p.isList ?_
  refine ⟨k1.trans (Kx.kn fun b o e => Heap.get?_push_of_some _ e), s1.heap.objs.size, [s1.heap.objs.size], _, _, H1, rfl, f1, I1.kept (t' := s1.toks) fun b o e => Heap.get?_push_of_some _ e, turnk_list a _, ⟨_, Heap.get?_push_size _ rfl, rfl, rfl⟩, fun b hb => ?_, q⟩
  have e : b = s1.heap.objs.size := by simpa using hb
  subst e
  exact I1.fpOk (Nat.le_refl _) (I1.hok.fresh (Nat.le_refl _))
theorem pik_tup {tg l : Expr} {tl : TE} (hl : PEK X ν l tl) : PIK X ν tg l (iTup X.K tl) := by
  refine ⟨fun pins s σ H R I h => ?_⟩
  refine thn (hl.run pins s σ H _ I h) fun v s1 ⟨k1, x, H1, f1, I1, r1, q1⟩ => ?_
  obtain ⟨a, e, ⟨xs, hq⟩, q⟩ := q1
  subst e
  cases r1
  obtain ⟨its, rv, p, hz⟩ := I1.tuple hq
  refine wpAny_pyIter_tuple (show s1.heap.IsTuple a its.toArray from p) ?_
  refine ⟨k1.trans (Kx.kn fun b o e => Heap.get?_push_of_some _ e), s1.heap.objs.size, [s1.heap.objs.size], _, _, H1, rfl, f1, I1.kept (t' := s1.toks) fun b o e => Heap.get?_push_of_some _ e, turnk_tuple a _, ⟨_, Heap.get?_push_size _ rfl, rfl, rfl⟩, fun b hb => ?_, q⟩
  have e : b = s1.heap.objs.size := by simpa using hb
  subst e
  exact I1.fpOk (Nat.le_refl _) (I1.hok.fresh (Nat.le_refl _))
theorem pik_or {tg it : Expr} {w w' : TI} (h : PIK X ν tg it w) (h' : PIK X ν tg it w') : PIK X ν tg it (fun σ H R => w σ H R ∨ w' σ H R) :=
  ⟨fun pins s σ H R I q => q.elim (h.run pins s σ H R I) (h'.run pins s σ H R I)⟩
/-- a list or a tuple -/
def iSeqK (K : PySem.W.Frag) (te : TE) : TI := fun σ H R => iList K te σ H R ∨ iTup K te σ H R
theorem pik_seq {tg l : Expr} {tl : TE} (hl : PEK X ν l tl) : PIK X ν tg l (iSeqK X.K tl) := pik_or (pik_list hl) (pik_tup hl)
theorem pik_range1 {tg a : Expr} {ta : TA} {p pos : Pos} (hg : Gl X "range") (hm : X.mg "range" = none) (ha : PAK X ν [a] ta) (hs : starEach [a] X.env = [(false, eval a X.env)] := by rfl) : PIK X ν tg (.Call (.Name "range" p) [a] [] pos) (iRng1 ta) := by
  refine ⟨fun pins s σ H R I h => ?_⟩
  refine Call_ (ld_blt I hg hm boot_range (PyProof.Rows.callWith_type1 (thn (ha.run pos pins s σ H _ I h) fun us s1 ⟨k1, vs, H1, f1, I1, r1, q1⟩ => ?_) hs rfl))
  obtain ⟨j, e, h3, h4, q⟩ := q1
  subst e
  cases r1 with
  | cons r rr =>
    cases rr
    obtain ⟨t, rfl⟩ := r
    refine call_range_1 (wpAny_pyIter_range (IsRange.new ..) (small_one (by omega) (by omega) h3 h4) ?_)
    rename_i t1
    have I2 := fun (o : Obj) (tk : Nat) => I1.kept (h' := s1.heap.push o) (t' := tk) fun b ob e => Heap.get?_push_of_some _ e
    refine ⟨k1.trans (Kx.kn fun b o e => Heap.get?_push_of_some _ (Heap.get?_push_of_some _ e)), _, [_], _, _, H1, rfl, f1, (I2 _ _).kept fun b o e => Heap.get?_push_of_some _ e, turnk_range _ 0 j.toNat, ?_, fun b hb => ?_, q⟩
    · have e1 : (0 : Int) + ((0 : Nat) : Int) * 1 = 0 := by simp
      have e2 : ((j.toNat : Nat) : Int) - ((0 : Nat) : Int) = Builtin.Range.rangeSize 0 j 1 := by rw [rangeSize_one]; split <;> omega
      show IsRangeIter _ _ ((0 : Int) + ((0 : Nat) : Int) * 1) (((j.toNat : Nat) : Int) - ((0 : Nat) : Int)) 1
      rw [e1, e2]
      exact Heap.get?_push_size _ rfl
    · rw [List.mem_singleton] at hb
      subst hb
      exact (I2 _ s1.toks).fpOk (Nat.le_refl _) ((I2 _ s1.toks).hok.fresh (Nat.le_refl _))
theorem psk_for {tg iter : Expr} {body : List Stmt} {wi : TI} {g : TG} {tb : TS} {pos : Pos} (hp : PassesOwn (model X.prog X.w) X.A X.env X.xe) (hc : X.calm = true) (hi : PIK X ν tg iter wi) (hg : PGK X ν tg g) (hb : PSsK X ν body tb)
    (hs : ∀ x, foldedSetIterable iter X.env x = pure x := by intro _; rfl) : PSK X ν (.For tg iter body [] pos) (tFor wi g tb) := by
  refine ⟨fun pins s σ H D I h => ?_⟩
  refine wpAny_For (thn (hi.run pins s σ H _ I h) fun v s1 h1 => thn h1 fun itv s2 h2 => ?_) hs
  obtain ⟨k2, it, fp, tn, J, H2, e, z2, I2, T, st2, f2, W, ⟨m0, w0⟩, turn⟩ := h2
  subst e
  have stat : ∀ {H' : Hp}, (∀ b ∈ fp, H' b = none) → ∀ b ∈ fp, FpOk X pins H' b := fun hn b hb => ⟨hn b hb, (f2 b hb).2⟩
  have kL : ∀ {s s' : Shared}, (∀ b o, b ∉ fp → s.heap.get? b = some o → s'.heap.get? b = some o) → Kn X ν s s' := fun {s s'} k m hm => by
    obtain ⟨o', es', ep', ho', r'⟩ := hm
    exact ⟨m, ⟨_, es', ep', k _ _ (fun z => (f2 _ z).2.1 rfl) ho', r'⟩, fun _ _ => rfl⟩
  refine codeAny_forLoop_any (fun n s' => Kn X ν s s' ∧ ∃ i σ' H', Fz H H' ∧ Inv X pins σ' H' s' ∧ tn i s'.heap ∧ (∀ b ∈ fp, H' b = none) ∧ W i n σ' H') ?_ m0 ⟨k2, 0, σ, H2, z2, I2, st2, fun b hb => (f2 b hb).1, w0⟩
  rintro n s3 ⟨k3, i, σ3, H3, z3, I3, st3, fr3, w3⟩
  rcases turn i n σ3 H3 w3 with ⟨stop, qn⟩ | ⟨go, N, hN, step⟩
  · refine wpAny_passesOwn hp (thn (T.done X rfl rfl rfl hc i pins s3 σ3 H3 X.xe I3 (stat fr3) st3 stop) fun r s4 ⟨hr, k4, I4⟩ => ?_)
    subst hr
    exact wpAny_execs_nil ⟨k3.trans (kL k4), σ3, H3, z3, I4, qn⟩
  · refine wpAny_passesOwn hp (thn (T.item X rfl rfl rfl hc i pins s3 σ3 H3 X.xe I3 (stat fr3) st3 go) fun r s4 ⟨u, hr, h4⟩ => ?_)
    subst hr
    refine wpAny_passesOwn hp (thn h4 fun _ s5 ⟨k5, x, I5, r5, y5, st5⟩ => ?_)
    have I5' := I5.pinned (stat fr3) (T.obj _ _ st5)
    refine wpAny_passesOwn hp (thn (hg.run _ s5 σ3 H3 x u _ I5' r5 (step x H3 y5)) fun _ s6 ⟨k6, σ6, H6, z6, I6, q6⟩ => ?_)
    refine wpAny_passesOwn hp (thn (hb.run _ s6 σ6 H6 _ I6 q6) fun f s7 q7 => ?_)
    obtain ⟨k7, q7⟩ := q7
    have kk : Kn X ν s s7 := ((k3.trans (kL k5)).trans k6).trans k7
    have again : ∀ {σ7 : L2.St} {H7 : Hp}, Fz H6 H7 → Inv X (pins ++ pinsAt fp s5.heap) σ7 H7 s7 → N σ7 H7 → ∃ m, m < n ∧ Kn X ν s s7 ∧ ∃ i σ' H', Fz H H' ∧ Inv X pins σ' H' s7 ∧ tn i s7.heap ∧ (∀ b ∈ fp, H' b = none) ∧ W i m σ' H' := fun {σ7 H7} z7 I7 n7 => by
      obtain ⟨m', hm, w7⟩ := hN σ7 H7 n7
      refine ⟨m', hm, kk, i + 1, σ7, H7, (z3.trans z6).trans z7, I7.unpinned, T.keep _ _ _ st5 fun b hb o e => (I7.pin (b, o) (List.mem_append_right _ (List.mem_append_right _ (mem_pinsAt hb e)))).1, fun b hb => ?_, w7⟩
      obtain ⟨o, e, d⟩ := T.obj _ _ st5 b hb
      exact (I7.pin (b, o) (List.mem_append_right _ (List.mem_append_right _ (mem_pinsAt hb e)))).2.1
    cases f with
    | next => obtain ⟨σ7, H7, z7, I7, n7⟩ := q7; exact again z7 I7 n7
    | cont => obtain ⟨σ7, H7, z7, I7, n7⟩ := q7; exact again z7 I7 n7
    | brk => obtain ⟨σ7, H7, z7, I7, q7⟩ := q7; exact ⟨kk, σ7, H7, (z3.trans z6).trans z7, I7.unpinned, q7⟩
    | ret v => obtain ⟨x7, σ7, H7, z7, I7, r7, q7⟩ := q7; exact ⟨kk, x7, σ7, H7, (z3.trans z6).trans z7, I7.unpinned, r7, q7⟩
theorem callk_isi : CallK X (.builtin "isinstance") (rIsi X.K) := by
  intro pins s σ H xs us Q I r h
  obtain ⟨x, c, t, u, b, rfl, k, ty, e, q⟩ := h
  obtain ⟨u1, u2, rfl, r1, r2⟩ := vals2 r
  have e2 := k.eq r2
  subst e2
  obtain ⟨P, Z, p, hx⟩ := kit_of I r1 ty
  exact PySem.W.kia_one Z I.kIn p e hx fun tk => ev_tok I (x := .bl b) rfl q
end
end DD

set_option Elab.async false
set_option linter.all false
set_option maxRecDepth 100000
set_option maxHeartbeats 4000000
/-! DD11: facts of tokens (N-judgements), str.replace with a count of one. -/
namespace PySem
open Builtin Builtin.Str
/-- x.replace(y, z, 1) -/
def Txt.replace1 (x y z : Str) : Str :=
  if ((occurrences x y 0 x.length 1).isEmpty || (y.length == 0 && z.length == 0)) = true then x else glued z (partsBetween x (occurrences x y 0 x.length 1) y.length)
theorem gives_str_replace1 (x y z : Str) (t u v k : Tok)
    (hf : (u == 0 || v == 0) = false ∧ (u == v) = false ∧ tooLong (x.length + (occurrences x y 0 x.length 1).length * z.length) = false) :
    GivesAt (fun s => NoneBooked s.heap) («str.replace» ⟨[.str x t, .str y u, .str z v, .int 1 k], []⟩)
      (if ((occurrences x y 0 x.length 1).isEmpty || (y.length == 0 && z.length == 0)) = true then .val (.str x t)
       else if (y == z) = true then .either (.val (.str x t)) (.str (glued z (partsBetween x (occurrences x y 0 x.length 1) y.length)))
       else .str (glued z (partsBetween x (occurrences x y 0 x.length 1) y.length))) := by
  show GivesAt _ (if ((occurrences x y 0 x.length 1).isEmpty || (y.length == 0 && z.length == 0)) = true then (do rule "str.replace.nothing"; ret (.str x t)) else
          (do let same ← isSame (.str y u) (.str z v)
              if same = true then (do rule "str.replace.old-is-new"; ret (.str x t)) else
              if tooLong (x.length + (occurrences x y 0 x.length 1).length * z.length) = true then unsupported "str.replace:memory" else
              retStr (glued z (partsBetween x (occurrences x y 0 x.length 1) y.length)))) _
  obtain ⟨h0, huv, hl⟩ := hf
  cases hc : ((occurrences x y 0 x.length 1).isEmpty || (y.length == 0 && z.length == 0))
  · cases hyz : (y == z)
    · rw [isSame_str_other y z u v h0 huv hyz, hl]
      exact Gives.at (.of_eq rfl)
    · intro prog w A R s hb hq
      show wpAny _ _ (isSame (.str y u) (.str z v) >>= _) _ _ _
      refine wpAny_bind (wpAny_isSame_str h0 hb fun b => ?_)
      cases b
      · show wpAny _ _ (if tooLong (x.length + (occurrences x y 0 x.length 1).length * z.length) = true then _
                         else retStr (glued z (partsBetween x (occurrences x y 0 x.length 1) y.length))) _ _ _
        rw [hl]
        exact wpAny_bind (wpAny_mkStr (wpAny_pure hq.2.2) hq.2.1)
      · exact wpAny_bind (wpAny_rule (wpAny_pure hq.1))
  · exact Gives.at (.rule (.of_eq rfl))
theorem replace1_len (x y z : Str) : (Txt.replace1 x y z).length ≤ x.length + z.length := by
  unfold Txt.replace1
  split
  · omega
  · have h1 := StrLaws.occ_length_le x y 0 x.length 1
    have hy : (glued y (partsBetween x (occurrences x y 0 x.length 1) y.length)).length = x.length := by rw [StrLaws.glued_between_self]
    rw [size_glued, length_partsBetween, Nat.add_sub_cancel] at hy
    rw [size_glued, length_partsBetween, Nat.add_sub_cancel]
    have h2 : (occurrences x y 0 x.length 1).length * z.length ≤ 1 * z.length := Nat.mul_le_mul_right _ h1
    omega
namespace SC
theorem replace1 {prog : Program} {w : World} {A : Around} {E : Value → Shared → Prop} {s : Shared} {x y z : Str} {t u v k : Tok} {Q : Value → Shared → Prop} (hu : u ≠ 0) (hv : v ≠ 0) (huv : u ≠ v) (hb : x.length + z.length ≤ 16777216)
    (hq : ∀ t' k, Q (.str (Txt.replace1 x y z) t') { s with toks := k }) (hnb : NoneBooked s.heap) :
    wpAny (model prog w) A (call (.builtin "str.replace") [.str x t, .str y u, .str z v, .int 1 k]) Q E s := by
  have hlen := replace1_len x y z
  have hl : tooLong (x.length + (occurrences x y 0 x.length 1).length * z.length) = false := by
    have h1 := StrLaws.occ_length_le x y 0 x.length 1
    have h2 : (occurrences x y 0 x.length 1).length * z.length ≤ 1 * z.length := Nat.mul_le_mul_right _ h1
    unfold tooLong sizeLine
    exact decide_eq_false (by omega)
  refine call_givesAt F.slot_str_replace (typeIs_str _ _ _) F.entry_str_replace (F.args_str_replace_4 _ _ _ _)
    (gives_str_replace1 x y z t u v k ⟨by simp [hu, hv], by simp [huv], hl⟩) hnb ?_
  have hq' := hq
  unfold Txt.replace1 at hq' hlen
  cases hc : ((occurrences x y 0 x.length 1).isEmpty || (y.length == 0 && z.length == 0))
  · rw [hc] at hq' hlen
    simp only [Bool.false_eq_true, if_false] at hq' hlen ⊢
    cases hyz : (y == z)
    · simp only [Bool.false_eq_true, if_false]
      exact ⟨by rw [sizeLine_eq]; omega, hq' _ _⟩
    · simp only [if_true]
      have e : y = z := eq_of_beq hyz
      subst e
      rw [StrLaws.glued_between_self] at hq' hlen ⊢
      dsimp only [Made.post]
      exact ⟨hq' t s.toks, by rw [sizeLine_eq]; omega, hq' _ _⟩
  · rw [hc] at hq'
    simp only [if_true] at hq' ⊢
    exact hq' t s.toks
end SC
end PySem

namespace DD
open PySem PySem.Spec PyProof.Rows L2 Evl

/-! ### facts -/
structure Fact where
  x : Str
  L : Bool
  P : Nat → Nat → Prop
def GoodT (P : Nat → Prop) (o : Option Value) : Prop := ∀ z t, o = some (.str z t) → P t
def GoodI (P : Nat → Prop) (its : List Value) : Prop := ∀ z t, Value.str z t ∈ its → P t
def GoodL (P : Nat → Prop) (H : Hp) (u : Value) : Prop := ∃ p ob its n ys, u = .ref p ∧ H p = some (.frz ob (.lst ys)) ∧ ob.data = .seq its n ∧ GoodI P its.toList
def Fact.ok (f : Fact) (n : Nat) (m : Str → Option Value) (H : Hp) : Prop := (f.L = true → ∃ u, m f.x = some u ∧ GoodL (f.P n) H u) ∧ (f.L = false → GoodT (f.P n) (m f.x))
abbrev names (τ : List Fact) : List Str := τ.map (·.x)
def Nz (X : Cx) (n0 : Nat) (τ : List Fact) (s : Shared) (H : Hp) : Prop := n0 ≤ s.toks ∧ ∃ m, s.heap.Ns X.env.locals m ∧ ∀ f ∈ τ, f.ok s.toks m H
def Mono (τ : List Fact) : Prop := ∀ f ∈ τ, ∀ n n' t, n ≤ n' → f.P n t → f.P n' t
section
variable {X : Cx} {n0 : Nat} {τ : List Fact} {s s' : Shared} {H H' : Hp}
theorem GoodL.mono {P P' : Nat → Prop} {u : Value} (hp : ∀ t, P t → P' t) (z : Fz H H') (h : GoodL P H u) : GoodL P' H' u := by
  obtain ⟨p, ob, its, n, ys, e, h1, h2, h3⟩ := h
  exact ⟨p, ob, its, n, ys, e, z _ _ _ h1, h2, fun y t q => hp t (h3 y t q)⟩
theorem Fact.ok.keep {f : Fact} {n n' : Nat} {m m' : Str → Option Value} (mo : ∀ n n' t, n ≤ n' → f.P n t → f.P n' t) (hn : n ≤ n') (hm : m' f.x = m f.x) (z : Fz H H') (h : f.ok n m H) : f.ok n' m' H' := by
  refine ⟨fun e => ?_, fun e y t q => ?_⟩
  · obtain ⟨u, h1, h2⟩ := h.1 e
    exact ⟨u, hm.trans h1, h2.mono (fun t => mo n n' t hn) z⟩
  · rw [hm] at q
    exact mo n n' t hn (h.2 e y t q)
theorem Nz.keep (mo : Mono τ) (k : Kn X (names τ) s s') (t : s.toks ≤ s'.toks) (z : Fz H H') (h : Nz X n0 τ s H) : Nz X n0 τ s' H' := by
  obtain ⟨h0, m, h1, h2⟩ := h
  obtain ⟨m', h3, h4⟩ := k m h1
  exact ⟨Nat.le_trans h0 t, m', h3, fun f hf => (h2 f hf).keep (mo f hf) t (h4 f.x (List.mem_map.mpr ⟨f, hf, rfl⟩)) z⟩
theorem raw_at {pins : List (Addr × Obj)} {σ : L2.St} {i : Nat} {x : Str} {v : V} {m : Str → Option Value} (I : Inv X pins σ H s) (hm : s.heap.Ns X.env.locals m) (hN : X.N[i]? = some x) (hk : X.env.scope.names.lookup x = some .local) (hσ : σ[i]? = some (some v)) :
    ∃ u, RelV v u ∧ m x = some u := by
  obtain ⟨m0, hn, hl⟩ := I.loc
  cases Ns.inj hm hn
  obtain ⟨u, r, l⟩ := hl i x v hN hσ (.inl hk)
  rcases l with ⟨_, l⟩ | ⟨k, _⟩
  · exact ⟨u, r, l⟩
  · have k0 : X.env.kindOf x = some .local := hk
    rw [k0] at k
    rcases k with k | k <;> cases k
theorem raw_ld {pins : List (Addr × Obj)} {σ : L2.St} {x : Str} {u : Value} {m : Str → Option Value} {pos : Pos} {Q E : Value → Shared → Prop} (I : Inv X pins σ H s) (hm : s.heap.Ns X.env.locals m) (hk : X.env.scope.names.lookup x = some .local) (hu : m x = some u) (h : Q u s)
    (hd : (x == ("__debug__" : Str)) = false) : wpAny (model X.prog X.w) X.A (eval (.Name x pos) X.env) Q E s := wpAny_Name (wpAny_loadName_local I.ok.kind hk hm hu h) hd
end
structure PEN (X : Cx) (n0 : Nat) (τ : List Fact) (e : Expr) (t : TE) : Prop where
  run : ∀ (pins : List (Addr × Obj)) (s : Shared) (σ : L2.St) (H : Hp) (Q : VK), Inv X pins σ H s → Nz X n0 τ s H → t σ H Q → wpAny (model X.prog X.w) X.A (eval e X.env) (EK X (names τ) pins σ s H Q) X.xe s
structure PAN (X : Cx) (n0 : Nat) (τ : List Fact) (es : List Expr) (t : TA) : Prop where
  run : ∀ (pos : Pos) (pins : List (Addr × Obj)) (s : Shared) (σ : L2.St) (H : Hp) (Q : List V → Hp → Prop), Inv X pins σ H s → Nz X n0 τ s H → t σ H Q → wpAny (model X.prog X.w) X.A (spliced (backTo pos (starEach es X.env))) (AK X (names τ) pins σ s H Q) X.xe s
structure PSN (X : Cx) (n0 : Nat) (τ : List Fact) (st : Stmt) (t : TS) : Prop where
  run : ∀ (pins : List (Addr × Obj)) (s : Shared) (σ : L2.St) (H : Hp) (D : Ends), Inv X pins σ H s → Nz X n0 τ s H → t D σ H → wpAny (model X.prog X.w) X.A (exec st X.env) (SK X (names τ) pins s H D) X.xe s
structure PSsN (X : Cx) (n0 : Nat) (τ : List Fact) (st : List Stmt) (t : TS) : Prop where
  run : ∀ (pins : List (Addr × Obj)) (s : Shared) (σ : L2.St) (H : Hp) (D : Ends), Inv X pins σ H s → Nz X n0 τ s H → t D σ H → wpAny (model X.prog X.w) X.A (execs st X.env) (SK X (names τ) pins s H D) X.xe s
structure PSZ (X : Cx) (n0 : Nat) (τ τ' : List Fact) (st : Stmt) (t : TS) : Prop where
  run : ∀ (pins : List (Addr × Obj)) (s : Shared) (σ : L2.St) (H : Hp) (D : Ends), Inv X pins σ H s → Nz X n0 τ s H → t D σ H →
    wpAny (model X.prog X.w) X.A (exec st X.env) (fun f s' => f = .next ∧ ∃ σ' H', Inv X pins σ' H' s' ∧ Nz X n0 τ' s' H' ∧ D.nx σ' H') X.xe s
structure PBN (X : Cx) (n0 : Nat) (τ : List Fact) (sts : List Stmt) (t : TS) : Prop where
  run : ∀ (pins : List (Addr × Obj)) (s : Shared) (σ : L2.St) (H : Hp) (D : Ends), Inv X pins σ H s → Nz X n0 τ s H → t D σ H → wpAny (model X.prog X.w) X.A (execs sts X.env) (SP X pins D) X.xe s

section
variable {X : Cx} {n0 : Nat} {τ τ' : List Fact} {a b c e o : Expr} {es : List Expr} {ta tb tc te to : TE} {t : TA} {pos p p2 p3 apos cpos : Pos} {x y : Str} {st : Stmt} {sts : List Stmt} {ts tu : TS}
theorem pen_of (h : PEK X (names τ) e te) : PEN X n0 τ e te := ⟨fun pins s σ H Q I _ q => h.run pins s σ H Q I q⟩
theorem pan_nil : PAN X n0 τ [] tNil := ⟨fun pos pins s σ H Q I _ q => pak_nil.run pos pins s σ H Q I q⟩
theorem pan_of (h : PAK X (names τ) es t) : PAN X n0 τ es t := ⟨fun pos pins s σ H Q I _ q => h.run pos pins s σ H Q I q⟩
theorem pan_cons (mo : Mono τ) (ha : PEN X n0 τ e te) (hr : PAN X n0 τ es t) (hs : starEach (e :: es) X.env = (false, eval e X.env) :: starEach es X.env := by rfl) : PAN X n0 τ (e :: es) (tCons te t) := by
  refine ⟨fun pos pins s σ H Q I z h => ?_⟩
  rw [hs]
  show wpAny _ _ (spliced ((false, eval e X.env) :: backTo pos (starEach es X.env))) _ _ s
  refine Calls.spliced_cons (thn' (PySem.wpAny_toks (ha.run pins s σ H _ I z h)) fun u s1 ⟨t1, k1, x, H1, f1, I1, r1, q1⟩ => ?_)
  exact thn (hr.run pos pins s1 σ H1 _ I1 (z.keep mo k1 t1 f1) q1) fun us s2 ⟨k2, xs, H2, f2, I2, r2, q2⟩ => ⟨k1.trans k2, x :: xs, H2, f1.trans f2, I2, .cons r1 r2, q2⟩
where thn' {α : Type} {t : Sem α} {Q Q' : α → Shared → Prop} {M : Model} {A : Around} {E : Value → Shared → Prop} {s : Shared} {n : Nat} (h : wpAny M A t (fun a s' => n ≤ s'.toks ∧ Q a s') (fun e s' => n ≤ s'.toks ∧ E e s') s) (hQ : ∀ a s', (n ≤ s'.toks ∧ Q a s') → Q' a s') : wpAny M A t Q' E s :=
  wpAny_mono h hQ fun _ _ x => x.2
/-- weaken, the tokens have grown -/
theorem thk {α : Type} {t : Sem α} {Q Q' : α → Shared → Prop} {M : Model} {A : Around} {E : Value → Shared → Prop} {s : Shared} (h : wpAny M A t Q E s) (hQ : ∀ a s', s.toks ≤ s'.toks → Q a s' → Q' a s') : wpAny M A t Q' E s :=
  wpAny_mono (PySem.wpAny_toks h) (fun a s' z => hQ a s' z.1 z.2) fun _ _ x => x.2
theorem pen_lst (h : PAN X n0 τ es t) : PEN X n0 τ (.List es pos) (tLst t) := by
  refine ⟨fun pins s σ H Q I z hq => ?_⟩
  refine wpAny_List_spliced (thn (h.run pos pins s σ H _ I z hq) fun us s1 ⟨k1, xs, H1, f1, I1, r, z, q⟩ => ⟨by rw [← r.length]; exact z, ?_⟩)
  exact EK.from k1 f1 (ev_lst (k := s1.toks) I1 r z (fun b u e => Heap.get?_push_of_some _ e) (Heap.get?_push_size _ rfl) q).k
theorem pen_op (mo : Mono τ) {op : Operator} {r : R2} (ho : OpK X (binaryOp op) r) (ha : PEN X n0 τ a ta) (hb : PEN X n0 τ b tb) : PEN X n0 τ (.BinOp a op b pos) (tOp r ta tb) := by
  refine ⟨fun pins s σ H Q I z h => ?_⟩
  refine wpAny_BinOp (thk (ha.run pins s σ H _ I z h) fun v s1 t1 ⟨k1, x, H1, f1, I1, r1, q1⟩ => ?_)
  refine thn (hb.run pins s1 σ H1 _ I1 (z.keep mo k1 t1 f1) q1) fun u s2 ⟨k2, y, H2, f2, I2, r2, q2⟩ => ?_
  exact thn (ho pins s2 σ H2 x y v u Q I2 r1 r2 q2) fun _ _ z => EK.from (k1.trans k2) (f1.trans f2) z.k

/-! ### replace with a count of one -/
/-- two raw texts of good tokens and a one -/
def RawArgs (us : List Value) : Prop := ∀ y z t u w, us = [.str y t, .str z u, w] → @Ne Nat t 0 ∧ @Ne Nat u 0 ∧ @Ne Nat t u
structure PRN (X : Cx) (n0 : Nat) (τ : List Fact) (es : List Expr) (t : TA) : Prop where
  run : ∀ (pos : Pos) (pins : List (Addr × Obj)) (s : Shared) (σ : L2.St) (H : Hp) (Q : List V → Hp → Prop), Inv X pins σ H s → Nz X n0 τ s H → t σ H Q →
    wpAny (model X.prog X.w) X.A (spliced (backTo pos (starEach es X.env))) (fun us s' => AK X (names τ) pins σ s H Q us s' ∧ RawArgs us) X.xe s
/-- written texts -/
theorem prn_const {y z : Str} {i : Int} {j0 j1 j2 : Nat} {q0 q1 q2 : Pos} (h1 : 1 ≤ n0) :
    PRN X n0 τ [.Constant (.str y) j0 q0, .Constant (.str z) j1 q1, .Constant (.int i) j2 q2] (tCons (tC (.str y)) (tCons (tC (.str z)) (tCons (tC (.int i)) tNil))) := by
  refine ⟨fun pos pins s σ H Q I z0 h => ?_⟩
  have h0 := z0.1
  show wpAny _ _ (spliced ((false, eval (.Constant (.str y) j0 q0) X.env) :: (false, eval (.Constant (.str z) j1 q1) X.env) :: (false, eval (.Constant (.int i) j2 q2) X.env) :: [])) _ _ s
  refine Calls.spliced_cons (Calls.Constant_str (Calls.spliced_cons (Calls.Constant_str (Calls.spliced_cons (wpAny_Constant_int (Calls.spliced_nil ?_))))))
  refine ⟨⟨Kx.kn fun _ _ e => e, [.str y, .str z, .int i], H, Fz.refl, I.tok _, .cons ⟨_, rfl⟩ (.cons ⟨_, rfl⟩ (.cons ⟨_, rfl⟩ .nil)), h⟩, fun y' z' t u w e => ?_⟩
  simp only [List.cons.injEq, Value.str.injEq, and_true] at e
  obtain ⟨⟨_, e1⟩, ⟨_, e2⟩, _⟩ := e
  have e2' : s.toks + 1 = u := e2
  have e1' : s.toks = t := e1
  exact ⟨by omega, by omega, by omega⟩
variable {P P' : Nat → Nat → Prop}
/-- two names -/
theorem prn_names {i k : Nat} {v : Int} {j : Nat} {q0 q1 q2 : Pos} (hx : ⟨x, false, P⟩ ∈ τ) (hy : ⟨y, false, P'⟩ ∈ τ) (hd : ∀ n t u, P n t → P' n u → t ≠ 0 ∧ u ≠ 0 ∧ t ≠ u)
    (hN : X.N[i]? = some x := by rfl) (hk : X.env.scope.names.lookup x = some .local := by rfl) (hN2 : X.N[k]? = some y := by rfl) (hk2 : X.env.scope.names.lookup y = some .local := by rfl) (hd1 : (x == ("__debug__" : Str)) = false := by decide) (hd2 : (y == ("__debug__" : Str)) = false := by decide) :
    PRN X n0 τ [.Name x q0, .Name y q1, .Constant (.int v) j q2] (tCons (tVar i) (tCons (tVar k) (tCons (tC (.int v)) tNil))) := by
  refine ⟨fun pos pins s σ H Q I z0 h => ?_⟩
  obtain ⟨h0, m, hm, hf⟩ := z0
  obtain ⟨vx, e1, vy, e2, h⟩ := h
  obtain ⟨ux, rx, mx⟩ := raw_at I hm hN hk e1
  obtain ⟨uy, ry, my⟩ := raw_at I hm hN2 hk2 e2
  show wpAny _ _ (spliced ((false, eval (.Name x q0) X.env) :: (false, eval (.Name y q1) X.env) :: (false, eval (.Constant (.int v) j q2) X.env) :: [])) _ _ s
  refine Calls.spliced_cons (raw_ld I hm hk mx (Calls.spliced_cons (raw_ld I hm hk2 my (Calls.spliced_cons (wpAny_Constant_int (Calls.spliced_nil ?_))) hd2)) hd1)
  refine ⟨⟨Kx.kn fun _ _ e => e, [vx, vy, .int v], H, Fz.refl, I.tok _, .cons rx (.cons ry (.cons ⟨_, rfl⟩ .nil)), h⟩, fun y' z' t u w e => ?_⟩
  simp only [List.cons.injEq, and_true] at e
  obtain ⟨e1, e2, _⟩ := e
  subst e1 e2
  exact hd _ _ _ ((hf _ hx).2 rfl _ _ mx) ((hf _ hy).2 rfl _ _ my)
/-- what + of texts gives, to the token -/
theorem add_raw {prog : Program} {w : World} {A : Around} {E : Value → Shared → Prop} {s : Shared} {y z : Str} {t u : Tok} {Q : Value → Shared → Prop} (hz : y.length + z.length ≤ sizeLine) (hq : ∀ t' k, (t' = s.toks ∨ (y.length = 0 ∧ t' = u) ∨ (z.length = 0 ∧ t' = t)) → Q (.str (y ++ z) t') { s with toks := k }) :
    wpAny (model prog w) A (binaryOp .Add (.str y t) (.str z u)) Q E s := by
  have e0 : ∀ a : Str, a.length = 0 → a = Str.empty := fun a h => by
    cases a with
    | mk c =>
      have : c = #[] := Array.size_eq_zero_iff.mp h
      subst this
      rfl
  have elen : (y ++ z).length = y.length + z.length := by
    show (y.cps ++ z.cps).size = _
    rw [Array.size_append]
    rfl
  refine PySem.P.add_str ?_
  by_cases c1 : y.length = 0
  · have e := e0 y c1
    have c1' : (y.length == 0) = true := beq_iff_eq.mpr c1
    rw [if_pos c1']
    have h := hq u s.toks (.inr (.inl ⟨c1, rfl⟩))
    have e2 : y ++ z = z := by
      subst e
      show (⟨#[] ++ z.cps⟩ : Str) = z
      rw [Array.empty_append]
    rw [e2] at h
    exact h
  · have c1' : ¬ (y.length == 0) = true := fun h => c1 (beq_iff_eq.mp h)
    rw [if_neg c1']
    by_cases c2 : z.length = 0
    · have e := e0 z c2
      have c2' : (z.length == 0) = true := beq_iff_eq.mpr c2
      rw [if_pos c2']
      have h := hq t s.toks (.inr (.inr ⟨c2, rfl⟩))
      have e2 : y ++ z = y := by
        subst e
        show (⟨y.cps ++ #[]⟩ : Str) = y
        rw [Array.append_empty]
      rw [e2] at h
      exact h
    · have c2' : ¬ (z.length == 0) = true := fun h => c2 (beq_iff_eq.mp h)
      rw [if_neg c2']
      exact ⟨by rw [elen]; exact hz, hq s.toks _ (.inl rfl)⟩
/-- word, word + c -/
theorem prn_addR {i : Nat} {z : Str} {v : Int} {j j1 : Nat} {q0 q1 q2 q3 q4 : Pos} (hx : ⟨x, false, P⟩ ∈ τ) (hP : ∀ n t, P n t → t ≠ 0 ∧ t < n) (hz : z.length ≠ 0)
    (hN : X.N[i]? = some x := by rfl) (hk : X.env.scope.names.lookup x = some .local := by rfl) (hd1 : (x == ("__debug__" : Str)) = false := by decide) :
    PRN X n0 τ [.Name x q0, .BinOp (.Name x q1) .Add (.Constant (.str z) j1 q3) q4, .Constant (.int v) j q2] (tCons (tVar i) (tCons (tOp rCatS (tVar i) (tC (.str z))) (tCons (tC (.int v)) tNil))) := by
  refine ⟨fun pos pins s σ H Q I z0 h => ?_⟩
  obtain ⟨h0, m, hm, hf⟩ := z0
  obtain ⟨vx, e1, vx2, e2, a, b, ea, eb, hl, h⟩ := h
  rw [e1] at e2
  cases e2
  subst ea
  cases eb
  obtain ⟨ux, rx, mx⟩ := raw_at I hm hN hk e1
  obtain ⟨t, rfl⟩ := rx
  obtain ⟨ht0, htn⟩ := hP _ _ ((hf _ hx).2 rfl _ _ mx)
  show wpAny _ _ (spliced ((false, eval (.Name x q0) X.env) :: (false, eval (.BinOp (.Name x q1) .Add (.Constant (.str z) j1 q3) q4) X.env) :: (false, eval (.Constant (.int v) j q2) X.env) :: [])) _ _ s
  refine Calls.spliced_cons (raw_ld I hm hk mx (Calls.spliced_cons (wpAny_BinOp (raw_ld I hm hk mx (Calls.Constant_str (add_raw hl fun t' k ht' => Calls.spliced_cons (wpAny_Constant_int (Calls.spliced_nil ?_)))) hd1))) hd1)
  refine ⟨⟨Kx.kn fun _ _ e => e, [.str a, .str (a ++ z), .int v], H, Fz.refl, I.tok _, .cons ⟨t, rfl⟩ (.cons ⟨t', rfl⟩ (.cons ⟨_, rfl⟩ .nil)), h⟩, fun y' z' t1 u1 w e => ?_⟩
  simp only [List.cons.injEq, Value.str.injEq, and_true] at e
  obtain ⟨⟨_, e1⟩, ⟨_, e2⟩, _⟩ := e
  subst e1
  have e2' : t' = u1 := e2
  rcases ht' with q | ⟨_, q⟩ | ⟨q, _⟩
  · have q' : t' = s.toks + 1 := q
    exact ⟨ht0, by omega, by omega⟩
  · have q' : t' = s.toks := q
    exact ⟨ht0, by omega, by omega⟩
  · exact absurd q hz
/-- word, c + word -/
theorem prn_addL {i : Nat} {z : Str} {v : Int} {j j1 : Nat} {q0 q1 q2 q3 q4 : Pos} (hx : ⟨x, false, P⟩ ∈ τ) (hP : ∀ n t, P n t → t ≠ 0 ∧ t < n) (hz : z.length ≠ 0)
    (hN : X.N[i]? = some x := by rfl) (hk : X.env.scope.names.lookup x = some .local := by rfl) (hd1 : (x == ("__debug__" : Str)) = false := by decide) :
    PRN X n0 τ [.Name x q0, .BinOp (.Constant (.str z) j1 q3) .Add (.Name x q1) q4, .Constant (.int v) j q2] (tCons (tVar i) (tCons (tOp rCatS (tC (.str z)) (tVar i)) (tCons (tC (.int v)) tNil))) := by
  refine ⟨fun pos pins s σ H Q I z0 h => ?_⟩
  obtain ⟨h0, m, hm, hf⟩ := z0
  obtain ⟨vx, e1, vx2, e2, a, b, ea, eb, hl, h⟩ := h
  rw [e1] at e2
  cases e2
  cases ea
  subst eb
  obtain ⟨ux, rx, mx⟩ := raw_at I hm hN hk e1
  obtain ⟨t, rfl⟩ := rx
  obtain ⟨ht0, htn⟩ := hP _ _ ((hf _ hx).2 rfl _ _ mx)
  have It := I.tok (s.toks + 1)
  show wpAny _ _ (spliced ((false, eval (.Name x q0) X.env) :: (false, eval (.BinOp (.Constant (.str z) j1 q3) .Add (.Name x q1) q4) X.env) :: (false, eval (.Constant (.int v) j q2) X.env) :: [])) _ _ s
  refine Calls.spliced_cons (raw_ld I hm hk mx (Calls.spliced_cons (wpAny_BinOp (Calls.Constant_str (raw_ld It hm hk mx (add_raw hl fun t' k ht' => Calls.spliced_cons (wpAny_Constant_int (Calls.spliced_nil ?_))) hd1)))) hd1)
  refine ⟨⟨Kx.kn fun _ _ e => e, [.str b, .str (z ++ b), .int v], H, Fz.refl, I.tok _, .cons ⟨t, rfl⟩ (.cons ⟨t', rfl⟩ (.cons ⟨_, rfl⟩ .nil)), h⟩, fun y' z' t1 u1 w e => ?_⟩
  simp only [List.cons.injEq, Value.str.injEq, and_true] at e
  obtain ⟨⟨_, e1⟩, ⟨_, e2⟩, _⟩ := e
  subst e1
  have e2' : t' = u1 := e2
  rcases ht' with q | ⟨q, _⟩ | ⟨_, q⟩
  · have q' : t' = s.toks + 1 := q
    exact ⟨ht0, by omega, by omega⟩
  · exact absurd q hz
  · have q' : t' = s.toks := q
    exact ⟨ht0, by omega, by omega⟩
def rRep1 : V → List V → Hp → VK → Prop := fun x xs H Q => ∃ a b c, x = .str a ∧ xs = [.str b, .str c, .int 1] ∧ a.length + c.length ≤ 16777216 ∧ Q (.str (Txt.replace1 a b c)) H
theorem ns_none {K : PySem.W.Frag} {h : Heap} {a : Addr} {m : Str → Option Value} {n : Str} (X : K.In h) (G : h.Ns a m) (e : PySem.W.nsIn K a n = some none) : m n = none := by
  obtain ⟨o, es, ep, ho, hd, _, hf⟩ := G
  unfold PySem.W.nsIn at e
  split at e
  · rename_i c d es' n' sl q
    have := X _ _ q
    rw [ho] at this
    cases this
    cases hd
    split at e
    · cases e
    · rename_i he
      rw [← hf]
      unfold nsFind findBy
      rw [← Array.find?_toList, he]
      rfl
  · cases e
theorem pen_rep (hnb : PySem.W.nsIn X.K cStatics sharingNotToldKey = some none) (mo : Mono τ) (ho : PEN X n0 τ o to) (ha : PRN X n0 τ (e :: es) t)
    (hbase : attributeBase o "replace" X.env (eval o X.env) = eval o X.env := by rfl)
    (hfew : ((backTo cpos (starEach (e :: es) X.env)).all (fun x => !x.1) && (backToKw cpos (keywordEach [] X.env)).all (fun x => x.1.isSome)
      && decide ((e :: es).length + ([] : List Keyword).length + (if ([] : List Keyword).isEmpty then 0 else 1) < 30)) = true := by rfl)
    (hline : (apos.endLine == cpos.line) = true := by rfl) (hs : starEach (e :: es) X.env = (false, eval e X.env) :: starEach es X.env := by rfl) (hplain : (backTo cpos (starEach es X.env)).any (·.1) = false := by rfl) :
    PEN X n0 τ (.Call (.Attribute o "replace" apos) (e :: es) [] cpos) (tBM X.K "str" rRep1 to t) := by
  refine ⟨fun pins s σ H Q I z h => ?_⟩
  refine wpAny_Call_method_late hbase hfew hline rfl (thk (ho.run pins s σ H _ I z h) fun v s1 t1 ⟨k1, x, H1, f1, I1, r1, ty, q1⟩ => ?_)
  obtain ⟨h1, h2⟩ := tyV_is I1 r1 ty
  refine ⟨"str", _, PySem.F.plainAttrs_str, PySem.F.slot_str_replace, PySem.F.type_str_replace, h1, h2, ?_⟩
  have hA := ha.run cpos pins s1 σ H1 _ I1 (z.keep mo k1 t1 f1) q1
  rw [hs] at hA ⊢
  refine Calls.callWith_builtin (by show (false || (backTo cpos (starEach es X.env)).any (·.1)) = false; rw [hplain] <;> rfl) (Calls.evalArgs_plain ?_)
  refine thn hA fun us s2 ⟨⟨k2, vs, H2, f2, I2, r2, q2⟩, ra⟩ => ?_
  obtain ⟨a, b, c, ex, exs, hb, q⟩ := q2
  subst ex exs
  obtain ⟨tx, rfl⟩ := r1
  cases r2 with
  | cons r3 r2 =>
    cases r2 with
    | cons r4 r2 =>
      cases r2 with
      | cons r5 r2 =>
        cases r2
        obtain ⟨t3, rfl⟩ := r3
        obtain ⟨t4, rfl⟩ := r4
        obtain ⟨t5, rfl⟩ := r5
        obtain ⟨g1, g2, g3⟩ := ra _ _ _ _ _ rfl
        have nb : NoneBooked s2.heap := by
          obtain ⟨mc, n1, _⟩ := I2.ok.mod.nolimit
          exact ⟨mc, n1.keeps I2.bk, ns_none I2.ok.mod.kin n1 hnb⟩
        exact PySem.SC.replace1 g1 g2 g3 hb (fun t' k => EK.from (k1.trans k2) (f1.trans f2) (ev_tok I2 (x := .str (Txt.replace1 a b c)) ⟨t', rfl⟩ q).k) nb

/-! ### statements -/
theorem pbn_of (h : PSs X sts ts) : PBN X n0 τ sts ts := ⟨fun pins s σ H D I _ q => h.run pins s σ H D I q⟩
theorem pbn_z (h : PSZ X n0 τ τ' st ts) (h2 : PBN X n0 τ' sts tu) : PBN X n0 τ (st :: sts) (tSeq ts tu) := by
  refine ⟨fun pins s σ H D I z q => ?_⟩
  refine wpAny_execs_cons (thn (h.run pins s σ H { D with nx := tu D } I z q) fun f s1 ⟨ef, σ1, H1, I1, z1, q1⟩ => ?_)
  subst ef
  exact h2.run pins s1 σ1 H1 D I1 z1 q1
theorem SK.sp {ν : List Str} {pins : List (Addr × Obj)} {s s' : Shared} {H : Hp} {D : Ends} {f : Flow} (h : SK X ν pins s H D f s') : SP X pins D f s' := by
  obtain ⟨_, h⟩ := h
  cases f with
  | next => obtain ⟨σ', H', _, r⟩ := h; exact ⟨σ', H', r⟩
  | brk => obtain ⟨σ', H', _, r⟩ := h; exact ⟨σ', H', r⟩
  | cont => obtain ⟨σ', H', _, r⟩ := h; exact ⟨σ', H', r⟩
  | ret u => obtain ⟨x, σ', H', _, r⟩ := h; exact ⟨x, σ', H', r⟩
theorem psn_of (h : PSK X (names τ) st ts) : PSN X n0 τ st ts := ⟨fun pins s σ H D I _ q => h.run pins s σ H D I q⟩
theorem pssn_of (h : PSsK X (names τ) sts ts) : PSsN X n0 τ sts ts := ⟨fun pins s σ H D I _ q => h.run pins s σ H D I q⟩
theorem pssn_one (h : PSN X n0 τ st ts) : PSsN X n0 τ [st] ts := by
  refine ⟨fun pins s σ H D I z q => ?_⟩
  refine wpAny_execs_cons (thn (h.run pins s σ H D I z q) fun f s1 q => ?_)
  cases f with
  | next => exact wpAny_execs_nil q
  | ret v => exact q
  | brk => exact q
  | cont => exact q
theorem pbn_n (mo : Mono τ) (h : PSN X n0 τ st ts) (h2 : PBN X n0 τ sts tu) : PBN X n0 τ (st :: sts) (tSeq ts tu) := by
  refine ⟨fun pins s σ H D I z q => ?_⟩
  refine wpAny_execs_cons (thk (h.run pins s σ H { D with nx := tu D } I z q) fun f s1 t1 ⟨k1, q1⟩ => ?_)
  cases f with
  | next =>
    obtain ⟨σ', H', f1, I', q⟩ := q1
    exact h2.run pins s1 σ' H' D I' (z.keep mo k1 t1 f1) q
  | ret v => exact SK.sp (ν := names τ) ⟨k1, q1⟩
  | brk => exact SK.sp (ν := names τ) ⟨k1, q1⟩
  | cont => exact SK.sp (ν := names τ) ⟨k1, q1⟩
/-- name = e, nothing said of it -/
theorem z_set {i : Nat} {pos' : Pos} (mo : Mono τ) (hN : X.N.Nodup) (he : PEN X n0 τ e te) (hν : x ∉ names τ) (hi : X.N[i]? = some x := by rfl) (hk : X.env.scope.names.lookup x = some .local := by rfl) (hs : swapsWith e (some (.Name x pos')) pos.line X.env = pure false := by rfl) :
    PSZ X n0 τ τ (.Assign [.Name x pos'] e pos) (tAsg te (gName i)) := by
  refine ⟨fun pins s σ H D I z h => ?_⟩
  refine wpAny_Assign_Name (thk (he.run pins s σ H _ I z h) fun v s1 t1 ⟨k1, y, H1, f1, I1, r1, q1⟩ => ?_) hs
  have z1 := z.keep mo k1 t1 f1
  obtain ⟨h0, m, hm, hf⟩ := z1
  refine store_k I1 hN hi hk r1 hm fun s' I' hn' ht' => ⟨rfl, _, H1, I', ⟨Nat.le_trans h0 ht', _, hn', fun f hff => (hf f hff).keep (mo f hff) ht' ?_ Fz.refl⟩, q1⟩
  have : f.x ≠ x := fun e => hν (e ▸ List.mem_map.mpr ⟨f, hff, rfl⟩)
  rw [if_neg this]
/-- what is stored is known to the token -/
theorem z_store {P : Nat → Nat → Prop} {L : Bool} {pins : List (Addr × Obj)} {s : Shared} {σ : L2.St} {H : Hp} {v : V} {u : Value} {i : Nat} {N : L2.St → Hp → Prop} (mo : Mono τ) (mP : ∀ n n' t, n ≤ n' → P n t → P n' t) (hN : X.N.Nodup) (hi : X.N[i]? = some x) (hk : X.env.scope.names.lookup x = some .local) (hν : x ∉ names τ)
    (I : Inv X pins σ H s) (z : Nz X n0 τ s H) (r : RelV v u) (g1 : L = true → GoodL (P s.toks) H u) (g2 : L = false → GoodT (P s.toks) (some u)) (q : N (σ.set i (some v)) H) {A : Around} {E : Value → Shared → Prop} {M : Model} :
    wpAny M A (storeName X.env x u) (fun _ s' => ∃ σ' H', Inv X pins σ' H' s' ∧ Nz X n0 (⟨x, L, P⟩ :: τ) s' H' ∧ N σ' H') E s := by
  obtain ⟨h0, m, hm, hf⟩ := z
  refine store_k I hN hi hk r hm fun s' I' hn' ht' => ⟨_, H, I', ⟨Nat.le_trans h0 ht', _, hn', fun f hff => ?_⟩, q⟩
  rcases List.mem_cons.mp hff with e | hff
  · subst e
    refine ⟨fun e => ⟨u, by simp, (g1 e).mono (fun t => mP _ _ t ht') Fz.refl⟩, fun e y t h => ?_⟩
    simp only [if_true] at h
    exact mP _ _ t ht' (g2 e y t h)
  · refine (hf f hff).keep (mo f hff) ht' ?_ Fz.refl
    have : f.x ≠ x := fun e => hν (e ▸ List.mem_map.mpr ⟨f, hff, rfl⟩)
    rw [if_neg this]
def rSplitZ : V → List V → Hp → VK → Prop := fun x xs H Q => ∃ a b, x = .str a ∧ xs = [.str b] ∧ (b.length == 0) = false ∧ a.length + 2 ≤ sizeLine ∧ ∀ p o, H p = none → Q (.ref p) (upd H p (.frz o (.lst ((Txt.split a b).map V.str))))
theorem strsFrom_tok : ∀ (l : List Str) (n : Nat) (z : Str) (t : Tok), Value.str z t ∈ strsFrom n l → @LE.le Nat _ n t ∧ @LT.lt Nat _ t (n + l.length)
  | [], n, z, t, h => by simp [strsFrom] at h
  | x :: l, n, z, t, h => by
    unfold strsFrom at h
    rcases List.mem_cons.mp h with e | h
    · cases e
      simp
    · have := strsFrom_tok l (n + 1) z t h
      simp
      omega
end
end DD

set_option Elab.async false
set_option linter.all false
set_option maxRecDepth 100000
set_option maxHeartbeats 4000000
/-! DD12: lists and texts known to the token: split, items, displays, loops; a def that asks for good tokens. -/
namespace DD
open PySem PySem.Spec PyProof.Rows L2 Evl

section
variable {X : Cx} {n0 : Nat} {τ τ' : List Fact} {a b c e o : Expr} {es : List Expr} {ta tb tc te to : TE} {t : TA} {pos p p2 p3 apos cpos : Pos} {x y : Str} {st : Stmt} {sts : List Stmt} {ts tu : TS} {P P' : Nat → Nat → Prop}
theorem split_raw {prog : Program} {w : World} {A : Around} {E : Value → Shared → Prop} {s : Shared} {a b : Str} {t u : Tok} {Q : Value → Shared → Prop} (hb : (b.length == 0) = false) (hz : a.length + 2 ≤ sizeLine)
    (hq : ∀ (its : List Value) (k : Nat), Vals ((Txt.split a b).map V.str) its → (∀ z t', Value.str z t' ∈ its → t' = t ∨ (@LE.le Nat _ s.toks t' ∧ @LT.lt Nat _ t' k)) → s.toks ≤ k →
      Q (.ref s.heap.objs.size) { s with toks := k, heap := s.heap.push { cls := .type "list", data := .seq its.toArray } }) : wpAny (model prog w) A (call (.builtin "str.split") [.str a t, .str b u]) Q E s := by
  have hn : (Builtin.Str.partsBetween a (Builtin.Str.occurrences a b 0 a.length (a.length + 1)) b.length).length ≤ sizeLine := by
    have e1 := StrLaws.occ_length_le a b 0 a.length (a.length + 1)
    rw [length_partsBetween]; omega
  have one : Txt.split a b = [a] → Q (.ref s.heap.objs.size) { s with toks := s.toks, heap := s.heap.push { cls := .type "list", data := .seq [Value.str a t].toArray } } := fun e => by
    refine hq [.str a t] s.toks ?_ (fun z t' h => ?_) (Nat.le_refl _)
    · rw [e]
      exact .cons ⟨t, rfl⟩ .nil
    · simp only [List.mem_singleton, Value.str.injEq] at h
      exact .inl h.2
  cases h1 : (decide (a.length < b.length) || decide (Builtin.Str.strKind a < Builtin.Str.strKind b))
  · cases hf : (Builtin.Str.occurrences a b 0 a.length (a.length + 1)).isEmpty
    · refine call_meets F.slot_str_split (typeIs_str _ _ _) F.entry_str_split (F.args_str_split_2 _ _) (meets_str_split_sep a b t u h1 hb hf (by omega) hn) ?_
      have ev : Txt.split a b = Builtin.Str.partsBetween a (Builtin.Str.occurrences a b 0 a.length (a.length + 1)) b.length := (if_neg (ne_true_of_eq_false h1)).trans (if_neg (ne_true_of_eq_false hf))
      refine hq _ _ ?_ (fun z t' h => .inr (strsFrom_tok _ _ z t' h)) (Nat.le_add_right _ _)
      rw [ev, strsFrom_eq]
      have q := vals_strs (PySem.numbered s.toks (Builtin.Str.partsBetween a (Builtin.Str.occurrences a b 0 a.length (a.length + 1)) b.length))
      rw [numbered_texts] at q
      exact q
    · refine call_meets F.slot_str_split (typeIs_str _ _ _) F.entry_str_split (F.args_str_split_2 _ _) (meets_str_split_not_found a b t u h1 hb hf) ?_
      exact one ((if_neg (ne_true_of_eq_false h1)).trans (if_pos hf))
  · refine call_meets F.slot_str_split (typeIs_str _ _ _) F.entry_str_split (F.args_str_split_2 _ _) (meets_str_split_cannot_occur a b t u h1) ?_
    exact one (if_pos h1)
/-- x = y.split(..), y known to the token -/
theorem z_split {i k : Nat} {z : Str} {j : Nat} {q0 q1 pos' : Pos} (mo : Mono τ) (mP : ∀ n n' t, n ≤ n' → P' n t → P' n' t) (hy : ⟨y, false, P⟩ ∈ τ) (hP : ∀ n t, n0 ≤ n → P n t → P' n t) (hF : ∀ n n' t, n0 ≤ n → n ≤ t → t < n' → P' n' t) (hN : X.N.Nodup) (hν : x ∉ names τ)
    (hi : X.N[i]? = some x := by rfl) (hk : X.env.scope.names.lookup x = some .local := by rfl) (hi2 : X.N[k]? = some y := by rfl) (hk2 : X.env.scope.names.lookup y = some .local := by rfl) (hd2 : (y == ("__debug__" : Str)) = false := by decide)
    (hs : swapsWith (.Call (.Attribute (.Name y q0) "split" apos) [.Constant (.str z) j q1] [] cpos) (some (.Name x pos')) pos.line X.env = pure false := by rfl)
    (hbase : attributeBase (.Name y q0) "split" X.env (eval (.Name y q0) X.env) = eval (.Name y q0) X.env := by rfl)
    (hfew : ((backTo cpos (starEach [.Constant (.str z) j q1] X.env)).all (fun x => !x.1) && (backToKw cpos (keywordEach [] X.env)).all (fun x => x.1.isSome)
      && decide (([Expr.Constant (.str z) j q1] : List Expr).length + ([] : List Keyword).length + (if ([] : List Keyword).isEmpty then 0 else 1) < 30)) = true := by rfl)
    (hline : (apos.endLine == cpos.line) = true := by rfl) :
    PSZ X n0 τ (⟨x, true, P'⟩ :: τ) (.Assign [.Name x pos'] (.Call (.Attribute (.Name y q0) "split" apos) [.Constant (.str z) j q1] [] cpos) pos) (tAsg (tBM X.K "str" rSplitZ (tVar k) (tCons (tC (.str z)) tNil)) (gName i)) := by
  refine ⟨fun pins s σ H D I nz h => ?_⟩
  obtain ⟨v, e1, ty, a, b, rfl, eb, hb, hz, q⟩ := h
  simp only [List.cons.injEq, V.str.injEq, and_true] at eb
  subst eb
  obtain ⟨h0, m, hm, hf⟩ := id nz
  obtain ⟨u, ru, mu⟩ := raw_at I hm hi2 hk2 e1
  obtain ⟨t, rfl⟩ := ru
  have pt : P s.toks t := (hf _ hy).2 rfl _ _ mu
  refine wpAny_Assign_Name (wpAny_Call_method_late hbase hfew hline rfl (raw_ld I hm hk2 mu ?_ hd2)) hs
  refine ⟨"str", _, PySem.F.plainAttrs_str, PySem.F.slot_str_split, PySem.F.type_str_split, typeIs_str _ _ _, (fun _ e => nomatch e), Calls.callWith_builtin rfl (Calls.evalArgs_plain ?_)⟩
  show wpAny _ _ (spliced ((false, eval (.Constant (.str z) j q1) X.env) :: [])) _ _ s
  refine Calls.spliced_cons (Calls.Constant_str (Calls.spliced_nil ?_))
  refine split_raw hb hz fun its n rv gi hn => ?_
  have hp : H s.heap.objs.size = none := I.hok.fresh (Nat.le_refl _)
  have hl : its.length ≤ sizeLine := by
    rw [← rv.length, List.length_map]
    exact Nat.le_trans (PyProof.Rows.split_le a z) hz
  have hn' : s.toks + 1 ≤ n := hn
  have I2 : Inv X pins σ (upd H s.heap.objs.size (.frz { cls := .type "list", data := .seq its.toArray } (.lst ((Txt.split a z).map V.str)))) { s with toks := n, heap := s.heap.push { cls := .type "list", data := .seq its.toArray } } :=
    I.laid (fun b u e => Heap.get?_push_of_some _ e) (Nat.le_refl _) ⟨Heap.get?_push_size _ rfl, by rw [rv.length]; exact hl, its, 0, rv, Heap.get?_push_size _ rfl⟩
  refine thn (z_store (N := D.nx) (L := true) mo mP hN hi hk hν I2 (nz.keep mo (Kx.kn fun b u e => Heap.get?_push_of_some _ e) (show s.toks ≤ n by omega) (Fz.new hp)) (v := .ref s.heap.objs.size) rfl (fun _ => ⟨_, _, _, 0, _, rfl, upd_same, rfl, fun y' t' h' => ?_⟩) (fun e => nomatch e) (q _ _ hp)) fun _ s' w => ⟨rfl, w⟩
  rcases gi y' t' (by simpa using h') with w | ⟨w1, w2⟩
  · subst w
    exact mP _ _ _ (show s.toks ≤ n by omega) (hP _ _ h0 pt)
  · exact hF s.toks n t' h0 (Nat.le_trans (Nat.le_succ _) w1) w2
/-- an item of a list whose object is known -/
theorem ixz {pins : List (Addr × Obj)} {σ : L2.St} {H : Hp} {s : Shared} {p : Addr} {ob : Obj} {ys : List V} {its : Array Value} {n : Nat} {i : Int} {u : Value} {v : V} {value slice : Expr} {Q E : Value → Shared → Prop} (I : Inv X pins σ H s) (hp : H p = some (.frz ob (.lst ys))) (hd : ob.data = .seq its n)
    (ri : RelV (.int i) u) (he : atI ys i = some v) (hs : subscripted slice false (.ref p) u = operate [.ref p, u] (getItem (.ref p) u)) (q : ∀ w, RelV v w → w ∈ its.toList → Q w s) :
    wpAny (model X.prog X.w) X.A (subscriptTail value slice (.ref p) u) Q E s := by
  obtain ⟨t, rfl⟩ := ri
  obtain ⟨its', r, pl, hz⟩ := I.list (show SqL X.K H p ys from .inl (.inr ⟨ob, hp⟩))
  have eits : its.toList = its' := by
    obtain ⟨e1, _⟩ := I.hok p _ hp
    obtain ⟨o, n2, e2, _, _, e3⟩ := pl
    rw [e1] at e2
    cases e2
    rw [hd] at e3
    cases e3
    simp
  obtain ⟨j, h1, h2, h3, h4, h5⟩ := atI_get he
  obtain ⟨w, ew, rw'⟩ := r.get h2
  have hl := r.length
  have hn := line63
  have fin : Q w s := q w rw' (by rw [eits]; exact List.mem_of_getElem? ew)
  by_cases h0 : 0 ≤ i
  · have hj : i.toNat = j := by
      rw [seqIndex_of h0 h5] at h1
      exact Option.some.inj h1
    exact item_listR pl.isList h0 (by omega) (by rw [hj]; simpa using ew) fin hs
  · have hj : (i + (its'.toArray.size : Int)).toNat = j := by
      rw [seqIndex_neg (by omega) h4] at h1
      rw [List.size_toArray, ← hl]
      exact Option.some.inj h1
    exact subscriptTail_builtinR (x := w) pl.isList.typeIs slot_list_getitem.lookup
      (wpAny_getItem_list_neg (Q := fun r s' => r = w ∧ Q r s') pl.isList (by omega) (by rw [List.size_toArray] <;> omega) (by omega) (by rw [hj]; simpa using ew) ⟨rfl, fin⟩) hs
/-- x = y[e], y a list known to the token -/
theorem z_ix {i k : Nat} {q0 pos' : Pos} (mo : Mono τ) (mP : ∀ n n' t, n ≤ n' → P' n t → P' n' t) (hy : ⟨y, true, P⟩ ∈ τ) (hP : ∀ n t, n0 ≤ n → P n t → P' n t) (hN : X.N.Nodup) (hν : x ∉ names τ) (he : PEK X (names τ) e te) (hsx : PlainIx e)
    (hi : X.N[i]? = some x := by rfl) (hk : X.env.scope.names.lookup x = some .local := by rfl) (hi2 : X.N[k]? = some y := by rfl) (hk2 : X.env.scope.names.lookup y = some .local := by rfl) (hd2 : (y == ("__debug__" : Str)) = false := by decide)
    (hs : swapsWith (.Subscript (.Name y q0) e cpos) (some (.Name x pos')) pos.line X.env = pure false := by rfl) :
    PSZ X n0 τ (⟨x, false, P'⟩ :: τ) (.Assign [.Name x pos'] (.Subscript (.Name y q0) e cpos) pos) (tAsg (tOp (rIxL X.K) (tVar k) te) (gName i)) := by
  refine ⟨fun pins s σ H D I nz h => ?_⟩
  obtain ⟨v, e1, h⟩ := h
  obtain ⟨h0, m, hm, hf⟩ := id nz
  obtain ⟨u, ru, mu⟩ := raw_at I hm hi2 hk2 e1
  obtain ⟨u', mu', p, ob, its, n, ys, eu, hp, hd, gi⟩ := (hf _ hy).1 rfl
  rw [mu] at mu'
  cases mu'
  subst eu
  have ev : v = .ref p := by
    cases v with
    | ref a => cases (show Value.ref p = Value.ref a from ru); rfl
    | non => cases (show Value.ref p = Value.none from ru)
    | bl b => cases (show Value.ref p = Value.bool b from ru)
    | int b => obtain ⟨_, z⟩ := (show ∃ t, Value.ref p = Value.int b t from ru); cases z
    | str b => obtain ⟨_, z⟩ := (show ∃ t, Value.ref p = Value.str b t from ru); cases z
    | byt b => obtain ⟨_, z⟩ := (show ∃ t, Value.ref p = Value.bytes b t from ru); cases z
    | flt b => obtain ⟨_, z⟩ := (show ∃ t, Value.ref p = Value.float b t from ru); cases z
    | ty b => cases (show Value.ref p = Value.type b from ru)
  subst ev
  refine wpAny_Assign_Name (Subscript_ (raw_ld I hm hk2 mu ?_ hd2)) hs
  refine thk (he.run pins s σ H _ I h) fun ui s2 t2 ⟨k2, vi, H2, f2, I2, ri, q2⟩ => ?_
  obtain ⟨p', xs, j, z, ep, ej, hq, hz, q⟩ := q2
  cases ep
  subst ej
  have hp2 := f2 _ _ _ hp
  have exs : xs = ys := I2.list_inj hq (show SqL X.K H2 p ys from .inl (.inr ⟨ob, hp2⟩))
  subst exs
  refine ixz I2 hp2 hd ri hz (hsx _ _) fun w rw hw => ?_
  refine thn (z_store (N := D.nx) (L := false) mo mP hN hi hk hν I2 (nz.keep mo k2 t2 f2) rw (fun e => nomatch e) (fun _ y' t' h' => ?_) q) fun _ s' w => ⟨rfl, w⟩
  cases h'
  exact mP _ _ _ t2 (hP _ _ h0 (gi _ _ hw))

/-! ### displays known to the token -/
structure PAZ (X : Cx) (n0 : Nat) (τ : List Fact) (es : List Expr) (P : Nat → Nat → Prop) (t : TA) : Prop where
  run : ∀ (pos : Pos) (pins : List (Addr × Obj)) (s : Shared) (σ : L2.St) (H : Hp) (Q : List V → Hp → Prop), Inv X pins σ H s → Nz X n0 τ s H → t σ H Q →
    wpAny (model X.prog X.w) X.A (spliced (backTo pos (starEach es X.env))) (fun us s' => s.toks ≤ s'.toks ∧ AK X (names τ) pins σ s H Q us s' ∧ GoodI (P s'.toks) us) X.xe s
theorem paz_nil : PAZ X n0 τ [] P tNil := ⟨fun _ _ _ _ H Q I _ h => Calls.spliced_nil ⟨Nat.le_refl _, ⟨Kn.refl, [], H, Fz.refl, I, .nil, h⟩, fun _ _ h => absurd h (by simp)⟩⟩
theorem paz_str {z : Str} {j : Nat} {q0 : Pos} (mo : Mono τ) (mP : ∀ n n' t, n ≤ n' → P n t → P n' t) (hF : ∀ n t, n0 ≤ t → t < n → P n t) (hr : PAZ X n0 τ es P t) (hs : starEach (.Constant (.str z) j q0 :: es) X.env = (false, eval (.Constant (.str z) j q0) X.env) :: starEach es X.env := by rfl) :
    PAZ X n0 τ (.Constant (.str z) j q0 :: es) P (tCons (tC (.str z)) t) := by
  refine ⟨fun pos pins s σ H Q I nz h => ?_⟩
  rw [hs]
  show wpAny _ _ (spliced ((false, eval (.Constant (.str z) j q0) X.env) :: backTo pos (starEach es X.env))) _ _ s
  refine Calls.spliced_cons (Calls.Constant_str ?_)
  have k1 : Kn X (names τ) s { s with toks := s.toks + 1 } := Kx.kn fun _ _ e => e
  refine thn (hr.run pos pins { s with toks := s.toks + 1 } σ H _ (I.tok _) (nz.keep mo k1 (Nat.le_succ _) Fz.refl) h) fun us s2 ⟨t2, ⟨k2, xs, H2, f2, I2, r2, q2⟩, g2⟩ => ?_
  have t2' : s.toks + 1 ≤ s2.toks := t2
  refine ⟨by omega, ⟨k1.trans k2, .str z :: xs, H2, f2, I2, .cons ⟨_, rfl⟩ r2, q2⟩, fun y' t' h' => ?_⟩
  rcases List.mem_cons.mp h' with e | h'
  · cases e
    exact hF _ _ nz.1 (by omega)
  · exact g2 _ _ h'
theorem paz_name {i : Nat} {q0 : Pos} (mo : Mono τ) (mP : ∀ n n' t, n ≤ n' → P n t → P n' t) (hx : ⟨x, false, P'⟩ ∈ τ) (hP : ∀ n t, n0 ≤ n → P' n t → P n t) (hr : PAZ X n0 τ es P t) (hN : X.N[i]? = some x := by rfl) (hk : X.env.scope.names.lookup x = some .local := by rfl) (hd : (x == ("__debug__" : Str)) = false := by decide)
    (hs : starEach (.Name x q0 :: es) X.env = (false, eval (.Name x q0) X.env) :: starEach es X.env := by rfl) : PAZ X n0 τ (.Name x q0 :: es) P (tCons (tVar i) t) := by
  refine ⟨fun pos pins s σ H Q I nz h => ?_⟩
  rw [hs]
  show wpAny _ _ (spliced ((false, eval (.Name x q0) X.env) :: backTo pos (starEach es X.env))) _ _ s
  obtain ⟨v, e1, h⟩ := h
  obtain ⟨h0, m, hm, hf⟩ := id nz
  obtain ⟨u, ru, mu⟩ := raw_at I hm hN hk e1
  refine Calls.spliced_cons (raw_ld I hm hk mu ?_ hd)
  refine thn (hr.run pos pins s σ H _ I nz h) fun us s2 ⟨t2, ⟨k2, xs, H2, f2, I2, r2, q2⟩, g2⟩ => ⟨t2, ⟨k2, v :: xs, H2, f2, I2, .cons ru r2, q2⟩, fun y' t' h' => ?_⟩
  rcases List.mem_cons.mp h' with e | h'
  · subst e
    exact mP _ _ _ t2 (hP _ _ h0 ((hf _ hx).2 rfl _ _ mu))
  · exact g2 _ _ h'
/-- a new list, its object known -/
def tLstZ (t : TA) : TE := fun σ H Q => t σ H fun xs H1 => xs.length ≤ sizeLine ∧ ∀ p o, H1 p = none → Q (.ref p) (upd H1 p (.frz o (.lst xs)))
theorem lstZ {pins : List (Addr × Obj)} {s : Shared} {σ : L2.St} {H : Hp} {Q : VK} {R : Value → Shared → Prop} (ha : PAZ X n0 τ es P t) (I : Inv X pins σ H s) (nz : Nz X n0 τ s H) (h : tLstZ t σ H Q)
    (fin : ∀ (p : Addr) (s' : Shared) (ob : Obj) (its : Array Value) (n : Nat) (ys : List V) (H' : Hp), s.toks ≤ s'.toks → Kn X (names τ) s s' → Fz H H' → Inv X pins σ H' s' → H' p = some (.frz ob (.lst ys)) → ob.data = .seq its n → GoodI (P s'.toks) its.toList → Q (.ref p) H' → R (.ref p) s') :
    wpAny (model X.prog X.w) X.A (eval (.List es pos) X.env) R X.xe s := by
  refine wpAny_List_spliced (thn (ha.run pos pins s σ H _ I nz h) fun us s1 ⟨t1, ⟨k1, xs, H1, f1, I1, r, z, q⟩, g⟩ => ⟨by rw [← r.length]; exact z, ?_⟩)
  have hp : H1 s1.heap.objs.size = none := I1.hok.fresh (Nat.le_refl _)
  have I2 : Inv X pins σ (upd H1 s1.heap.objs.size (.frz { cls := .type "list", data := .seq us.toArray } (.lst xs))) { s1 with heap := s1.heap.push { cls := .type "list", data := .seq us.toArray } } :=
    I1.laid (t' := s1.toks) (fun b u e => Heap.get?_push_of_some _ e) (Nat.le_refl _) ⟨Heap.get?_push_size _ rfl, z, us, 0, r, Heap.get?_push_size _ rfl⟩
  exact fin _ _ _ us.toArray 0 xs _ t1 (k1.trans (Kx.kn fun b u e => Heap.get?_push_of_some _ e)) (f1.trans (Fz.new hp)) I2 upd_same rfl (by simpa using g) (q _ _ hp)
theorem z_lst {i : Nat} {pos' : Pos} (mo : Mono τ) (mP : ∀ n n' t, n ≤ n' → P n t → P n' t) (ha : PAZ X n0 τ es P t) (hN : X.N.Nodup) (hν : x ∉ names τ) (hi : X.N[i]? = some x := by rfl) (hk : X.env.scope.names.lookup x = some .local := by rfl)
    (hs : swapsWith (.List es cpos) (some (.Name x pos')) pos.line X.env = pure false := by rfl) :
    PSZ X n0 τ (⟨x, true, P⟩ :: τ) (.Assign [.Name x pos'] (.List es cpos) pos) (tAsg (tLstZ t) (gName i)) := by
  refine ⟨fun pins s σ H D I nz h => ?_⟩
  refine wpAny_Assign_Name (lstZ ha I nz h fun p s' ob its n ys H' t' k' f' I' hp hd g q => ?_) hs
  exact thn (z_store (N := D.nx) (L := true) mo mP hN hi hk hν I' (nz.keep mo k' t' f') (v := .ref p) rfl (fun _ => ⟨p, ob, its, n, ys, rfl, hp, hd, g⟩) (fun e => nomatch e) q) fun _ s' w => ⟨rfl, w⟩

/-! ### loops -/
structure PIN (X : Cx) (n0 : Nat) (τ : List Fact) (tg iter : Expr) (wi : TI) : Prop where
  run : ∀ (pins : List (Addr × Obj)) (s : Shared) (σ : L2.St) (H : Hp) (R : It → Hp → Prop), Inv X pins σ H s → Nz X n0 τ s H → wi σ H R →
    wpAny (model X.prog X.w) X.A (eval iter X.env) (fun v s1 => wpAny (model X.prog X.w) X.A (pyIter v) (PIEK X (names τ) pins σ s H tg R) X.xe s1) X.xe s
theorem pin_of {tg iter : Expr} {wi : TI} (h : PIK X (names τ) tg iter wi) : PIN X n0 τ tg iter wi := ⟨fun pins s σ H R I _ q => h.run pins s σ H R I q⟩
theorem pin_list {tg l : Expr} {tl : TE} (hl : PEN X n0 τ l tl) : PIN X n0 τ tg l (iList X.K tl) := by
  refine ⟨fun pins s σ H R I nz h => ?_⟩
  refine thn (hl.run pins s σ H _ I nz h) fun v s1 ⟨k1, x, H1, f1, I1, r1, q1⟩ => ?_
  obtain ⟨a, e, ⟨xs, hq⟩, q⟩ := q1
  subst e
  cases r1
  obtain ⟨its, rv, p, hz⟩ := I1.list hq
  refine wpAny_pyIter_list p.isList ?_
  refine ⟨k1.trans (Kx.kn fun b o e => Heap.get?_push_of_some _ e), s1.heap.objs.size, [s1.heap.objs.size], _, _, H1, rfl, f1, I1.kept (t' := s1.toks) fun b o e => Heap.get?_push_of_some _ e, turnk_list a _, ⟨_, Heap.get?_push_size _ rfl, rfl, rfl⟩, fun b hb => ?_, q⟩
  have e : b = s1.heap.objs.size := by simpa using hb
  subst e
  exact I1.fpOk (Nat.le_refl _) (I1.hok.fresh (Nat.le_refl _))
theorem kn_fp {fp : List Addr} {ν : List Str} {s s' : Shared} {pins : List (Addr × Obj)} {H : Hp} (f : ∀ b ∈ fp, FpOk X pins H b) (k : ∀ b o, b ∉ fp → s.heap.get? b = some o → s'.heap.get? b = some o) : Kn X ν s s' := fun m hm => by
  obtain ⟨o', es', ep', ho', r'⟩ := hm
  exact ⟨m, ⟨_, es', ep', k _ _ (fun z => (f _ z).2.1 rfl) ho', r'⟩, fun _ _ => rfl⟩
theorem psn_for {tg iter : Expr} {body : List Stmt} {wi : TI} {g : TG} {tb : TS} {pos : Pos} (mo : Mono τ) (hp : PassesOwn (model X.prog X.w) X.A X.env X.xe) (hc : X.calm = true) (hi : PIN X n0 τ tg iter wi) (hg : PGK X (names τ) tg g) (hb : PSsN X n0 τ body tb)
    (hs : ∀ x, foldedSetIterable iter X.env x = pure x := by intro _; rfl) : PSN X n0 τ (.For tg iter body [] pos) (tFor wi g tb) := by
  refine ⟨fun pins s σ H D I nz h => ?_⟩
  refine wpAny_For (thk (hi.run pins s σ H _ I nz h) fun v s1 t1 h1 => thk h1 fun itv s2 t2 h2 => ?_) hs
  obtain ⟨k2, it, fp, tn, J, H2, e, z2, I2, T, st2, f2, W, ⟨m0, w0⟩, turn⟩ := h2
  subst e
  have stat : ∀ {H' : Hp}, (∀ b ∈ fp, H' b = none) → ∀ b ∈ fp, FpOk X pins H' b := fun hn b hb => ⟨hn b hb, (f2 b hb).2⟩
  refine codeAny_forLoop_any (fun n s' => s.toks ≤ s'.toks ∧ Kn X (names τ) s s' ∧ ∃ i σ' H', Fz H H' ∧ Inv X pins σ' H' s' ∧ tn i s'.heap ∧ (∀ b ∈ fp, H' b = none) ∧ W i n σ' H') ?_ m0 ⟨Nat.le_trans t1 t2, k2, 0, σ, H2, z2, I2, st2, fun b hb => (f2 b hb).1, w0⟩
  rintro n s3 ⟨t3, k3, i, σ3, H3, z3, I3, st3, fr3, w3⟩
  rcases turn i n σ3 H3 w3 with ⟨stop, qn⟩ | ⟨go, N, hN, step⟩
  · refine wpAny_passesOwn hp (thn (T.done X rfl rfl rfl hc i pins s3 σ3 H3 X.xe I3 (stat fr3) st3 stop) fun r s4 ⟨hr, k4, I4⟩ => ?_)
    subst hr
    exact wpAny_execs_nil ⟨k3.trans (kn_fp f2 k4), σ3, H3, z3, I4, qn⟩
  · refine wpAny_passesOwn hp (thk (T.item X rfl rfl rfl hc i pins s3 σ3 H3 X.xe I3 (stat fr3) st3 go) fun r s4 t4 ⟨u, hr, h4⟩ => ?_)
    subst hr
    refine wpAny_passesOwn hp (thk h4 fun _ s5 t5 ⟨k5, x, I5, r5, y5, st5⟩ => ?_)
    have I5' := I5.pinned (stat fr3) (T.obj _ _ st5)
    refine wpAny_passesOwn hp (thk (hg.run _ s5 σ3 H3 x u _ I5' r5 (step x H3 y5)) fun _ s6 t6 ⟨k6, σ6, H6, z6, I6, q6⟩ => ?_)
    have t06 : s.toks ≤ s6.toks := by omega
    refine wpAny_passesOwn hp (thk (hb.run _ s6 σ6 H6 _ I6 (nz.keep mo ((k3.trans (kn_fp f2 k5)).trans k6) t06 (z3.trans z6)) q6) fun f s7 t7 q7 => ?_)
    obtain ⟨k7, q7⟩ := q7
    have kk : Kn X (names τ) s s7 := ((k3.trans (kn_fp f2 k5)).trans k6).trans k7
    have again : ∀ {σ7 : L2.St} {H7 : Hp}, Fz H6 H7 → Inv X (pins ++ pinsAt fp s5.heap) σ7 H7 s7 → N σ7 H7 → ∃ m, m < n ∧ s.toks ≤ s7.toks ∧ Kn X (names τ) s s7 ∧ ∃ i σ' H', Fz H H' ∧ Inv X pins σ' H' s7 ∧ tn i s7.heap ∧ (∀ b ∈ fp, H' b = none) ∧ W i m σ' H' := fun {σ7 H7} z7 I7 n7 => by
      obtain ⟨m', hm, w7⟩ := hN σ7 H7 n7
      refine ⟨m', hm, by omega, kk, i + 1, σ7, H7, (z3.trans z6).trans z7, I7.unpinned, T.keep _ _ _ st5 fun b hb o e => (I7.pin (b, o) (List.mem_append_right _ (List.mem_append_right _ (mem_pinsAt hb e)))).1, fun b hb => ?_, w7⟩
      obtain ⟨o, e, d⟩ := T.obj _ _ st5 b hb
      exact (I7.pin (b, o) (List.mem_append_right _ (List.mem_append_right _ (mem_pinsAt hb e)))).2.1
    cases f with
    | next => obtain ⟨σ7, H7, z7, I7, n7⟩ := q7; exact again z7 I7 n7
    | cont => obtain ⟨σ7, H7, z7, I7, n7⟩ := q7; exact again z7 I7 n7
    | brk => obtain ⟨σ7, H7, z7, I7, q7⟩ := q7; exact ⟨kk, σ7, H7, (z3.trans z6).trans z7, I7.unpinned, q7⟩
    | ret v => obtain ⟨x7, σ7, H7, z7, I7, r7, q7⟩ := q7; exact ⟨kk, x7, σ7, H7, (z3.trans z6).trans z7, I7.unpinned, r7, q7⟩
/-- for x in [..], the list known to the token -/
theorem psn_forZ {i : Nat} {body : List Stmt} {tb : TS} {pos q0 : Pos} (mo : Mono τ) (mP : ∀ n n' t, n ≤ n' → P n t → P n' t) (hp : PassesOwn (model X.prog X.w) X.A X.env X.xe) (hc : X.calm = true) (ha : PAZ X n0 τ es P t) (hN : X.N.Nodup) (hν : x ∉ names τ) (hb : PSsN X n0 (⟨x, false, P⟩ :: τ) body tb)
    (hix : X.N[i]? = some x := by rfl) (hk : X.env.scope.names.lookup x = some .local := by rfl) (hs : ∀ x, foldedSetIterable (.List es cpos) X.env x = pure x := by intro _; rfl) : PSN X n0 τ (.For (.Name x q0) (.List es cpos) body [] pos) (tFor (iList X.K (tLstZ t)) (gName i) tb) := by
  refine ⟨fun pins s σ H D I nz h => ?_⟩
  unfold tFor iList at h
  refine wpAny_For (lstZ ha I nz h fun a s1 ob its nn ys H1 t1 k1 f1 I1 hp1 hd g1 q1 => ?_) hs
  obtain ⟨a', e, ⟨xs, hq⟩, W, ⟨m0, w0⟩, turn⟩ := q1
  cases e
  obtain ⟨its1, rv1, p1, _⟩ := I1.list hq
  refine wpAny_pyIter_list p1.isList ?_
  generalize hs2 : ({ s1 with heap := s1.heap.push _ } : Shared) = s2
  generalize hit : s1.heap.objs.size = it
  have I2 : Inv X pins σ H1 s2 := by rw [← hs2]; exact I1.kept (t' := s1.toks) fun b o e => Heap.get?_push_of_some _ e
  have k2 : Kn X (names τ) s1 s2 := by rw [← hs2]; exact Kx.kn fun b o e => Heap.get?_push_of_some _ e
  have t2 : s1.toks ≤ s2.toks := by rw [← hs2]; exact Nat.le_refl _
  have st2 : s2.heap.IsListIter it a 0 := by rw [← hs2, ← hit]; exact ⟨_, Heap.get?_push_size _ rfl, rfl, rfl⟩
  have f2 : ∀ b ∈ [it], FpOk X pins H1 b := fun b hb => by
    rw [List.mem_singleton] at hb
    subst hb
    rw [← hit]
    exact I1.fpOk (Nat.le_refl _) (I1.hok.fresh (Nat.le_refl _))
  have stat : ∀ {H' : Hp}, (∀ b ∈ [it], H' b = none) → ∀ b ∈ [it], FpOk X pins H' b := fun hn b hb => ⟨hn b hb, (f2 b hb).2⟩
  have nz2 : Nz X n0 τ s2 H1 := nz.keep mo (k1.trans k2) (Nat.le_trans t1 t2) f1
  have gd2 : GoodI (P s2.toks) its.toList := fun y' t' h' => mP _ _ _ t2 (g1 y' t' h')
  refine codeAny_forLoop_any (fun n s' => s2.toks ≤ s'.toks ∧ Kn X (names τ) s2 s' ∧ ∃ i σ' H', Fz H1 H' ∧ Inv X pins σ' H' s' ∧ s'.heap.IsListIter it a i ∧ (∀ b ∈ [it], H' b = none) ∧ W i n σ' H') ?_ m0 ⟨Nat.le_refl _, Kn.refl, 0, σ, H1, Fz.refl, I2, st2, fun b hb => (f2 b hb).1, w0⟩
  have T : TurnK X.prog X.w X.K (.Name x q0) (Itl X.K a) [it] it (fun i h => h.IsListIter it a i) := turnk_list a it
  rintro n s3 ⟨t3, k3, i3, σ3, H3, z3, I3, st3, fr3, w3⟩
  have hp3 := z3 _ _ _ hp1
  rcases turn i3 n σ3 H3 w3 with ⟨stop, qn⟩ | ⟨go, N, hN', step⟩
  · refine wpAny_passesOwn hp (thn (T.done X rfl rfl rfl hc i3 pins s3 σ3 H3 X.xe I3 (stat fr3) st3 stop) fun r s4 ⟨hr, k4, I4⟩ => ?_)
    subst hr
    exact wpAny_execs_nil ⟨((k1.trans k2).trans k3).trans (kn_fp f2 k4), σ3, H3, f1.trans z3, I4, qn⟩
  · obtain ⟨xs3, x3, hq3, hx3⟩ := go
    obtain ⟨its3, rv3, p3, _⟩ := I3.list hq3
    have eits : its.toList = its3 := by
      obtain ⟨e1, _⟩ := I3.hok a _ hp3
      obtain ⟨o, n2, e2, _, _, e3⟩ := p3
      rw [e1] at e2
      cases e2
      rw [hd] at e3
      cases e3
      simp
    obtain ⟨u, hu, ru⟩ := rv3.get hx3
    obtain ⟨g0, g1', g2, g3, g4, g5⟩ := stat fr3 it (by simp)
    refine wpAny_passesOwn hp (wpAny_pyNext_list_item st3 p3.isList (x := u) (by simpa using hu) fun h' st' sb => ?_)
    have I5 : Inv X pins σ3 H3 { s3 with heap := h' } := I3.turned (t' := s3.toks) (fun b o hb e => (sb.2 b hb).trans e) g0 g1' g3 g4 g5
    obtain ⟨o, eo, co, do'⟩ := id st'
    refine wpAny_passesOwn hp (go_of (s := { s3 with heap := h' }) eo co do' (by decide) ?_)
    have k5 : Kn X (names τ) s3 { s3 with heap := h' } := kn_fp (fp := [it]) f2 fun b o hb e => (sb.2 b (fun z => hb (by simp [z]))).trans e
    have I5' := I5.pinned (stat fr3) (T.obj _ _ st')
    have nz5 : Nz X n0 τ { s3 with heap := h' } H3 := nz2.keep mo (k3.trans k5) t3 z3
    have gu : GoodT (P s3.toks) (some u) := fun y' t' h'' => by
      cases h''
      exact mP _ _ _ t3 (gd2 _ _ (by rw [eits]; exact List.mem_of_getElem? hu))
    have yl : (Itl X.K a).yld i3 H3 x3 H3 := ⟨rfl, fun ys' hy => by rw [I3.list_inj hy hq3]; exact hx3⟩
    have q6 := step x3 H3 yl
    obtain ⟨m5, hm5, _⟩ := id I5'.loc
    refine wpAny_passesOwn hp (wpAny_assign_Name (store_k (s := { s3 with heap := h' }) I5' hN hix hk ru hm5 fun s6 I6 hn6 t6 => ?_))
    have k6 : Kn X (names τ) { s3 with heap := h' } s6 := fun m hm => by
      cases Ns.inj hm5 hm
      refine ⟨_, hn6, fun z hz => ?_⟩
      have : z ≠ x := fun e => hν (e ▸ hz)
      rw [if_neg this]
    have nz6 : Nz X n0 (⟨x, false, P⟩ :: τ) s6 H3 := by
      obtain ⟨w0', m', hm', hf'⟩ := nz5
      cases Ns.inj hm5 hm'
      refine ⟨Nat.le_trans w0' t6, _, hn6, fun f hff => ?_⟩
      rcases List.mem_cons.mp hff with e | hff
      · subst e
        refine ⟨(fun e => nomatch e), fun _ y' t' h'' => ?_⟩
        simp only [if_true] at h''
        exact mP _ _ t' t6 (gu y' t' h'')
      · refine (hf' f hff).keep (mo f hff) t6 ?_ Fz.refl
        have : f.x ≠ x := fun e => hν (e ▸ List.mem_map.mpr ⟨f, hff, rfl⟩)
        rw [if_neg this]
    refine wpAny_passesOwn hp (thk (hb.run _ s6 _ H3 _ I6 nz6 q6) fun f s7 t7 q7 => ?_)
    obtain ⟨k7, q7⟩ := q7
    have k7' : Kn X (names τ) s6 s7 := fun m hm => by
      obtain ⟨m', h1, h2⟩ := k7 m hm
      exact ⟨m', h1, fun z hz => h2 z (List.mem_cons_of_mem _ hz)⟩
    have kk : Kn X (names τ) s2 s7 := ((k3.trans k5).trans k6).trans k7'
    have t6' : s3.toks ≤ s6.toks := t6
    have again : ∀ {σ7 : L2.St} {H7 : Hp}, Fz H3 H7 → Inv X (pins ++ pinsAt [it] ({ s3 with heap := h' } : Shared).heap) σ7 H7 s7 → N σ7 H7 → ∃ m, m < n ∧ s2.toks ≤ s7.toks ∧ Kn X (names τ) s2 s7 ∧ ∃ i σ' H', Fz H1 H' ∧ Inv X pins σ' H' s7 ∧ s7.heap.IsListIter it a i ∧ (∀ b ∈ [it], H' b = none) ∧ W i m σ' H' := fun {σ7 H7} z7 I7 n7 => by
      obtain ⟨m', hm, w7⟩ := hN' σ7 H7 n7
      refine ⟨m', hm, by omega, kk, i3 + 1, σ7, H7, z3.trans z7, I7.unpinned, T.keep _ _ _ st' fun b hb o e => (I7.pin (b, o) (List.mem_append_right _ (List.mem_append_right _ (mem_pinsAt hb e)))).1, fun b hb => ?_, w7⟩
      obtain ⟨o, e, d⟩ := T.obj _ _ st' b hb
      exact (I7.pin (b, o) (List.mem_append_right _ (List.mem_append_right _ (mem_pinsAt hb e)))).2.1
    have kf : Kn X (names τ) s s7 := (k1.trans k2).trans kk
    cases f with
    | next => obtain ⟨σ7, H7, z7, I7, n7⟩ := q7; exact again z7 I7 n7
    | cont => obtain ⟨σ7, H7, z7, I7, n7⟩ := q7; exact again z7 I7 n7
    | brk => obtain ⟨σ7, H7, z7, I7, q7⟩ := q7; exact ⟨kf, σ7, H7, (f1.trans z3).trans z7, I7.unpinned, q7⟩
    | ret v => obtain ⟨x7, σ7, H7, z7, I7, r7, q7⟩ := q7; exact ⟨kf, x7, σ7, H7, (f1.trans z3).trans z7, I7.unpinned, r7, q7⟩
end
end DD

set_option Elab.async false
set_option linter.all false
set_option maxRecDepth 100000
set_option maxHeartbeats 4000000
/-! DD13: values of good tokens: a comprehension, join; a def whose answer is of a good token. -/
namespace DD
open PySem PySem.Spec PyProof.Rows L2 Evl

def GoodU (n : Nat) (u : Value) : Prop := ∀ z t, u = .str z t → @LE.le Nat _ 1 t ∧ @LT.lt Nat _ t n
abbrev Pn : Nat → Nat → Prop := fun n t => 1 ≤ t ∧ t < n
theorem GoodU.mono {n n' : Nat} {u : Value} (h : GoodU n u) (l : n ≤ n') : GoodU n' u := fun z t e => ⟨(h z t e).1, Nat.lt_of_lt_of_le (h z t e).2 l⟩
theorem Pn.mono : ∀ n n' t, n ≤ n' → Pn n t → Pn n' t := fun _ _ _ l h => ⟨h.1, Nat.lt_of_lt_of_le h.2 l⟩
structure PEG (X : Cx) (ν : List Str) (e : Expr) (t : TE) : Prop where
  run : ∀ (pins : List (Addr × Obj)) (s : Shared) (σ : L2.St) (H : Hp) (Q : VK), Inv X pins σ H s → 1 ≤ s.toks → t σ H Q → wpAny (model X.prog X.w) X.A (eval e X.env) (fun v s' => EK X ν pins σ s H Q v s' ∧ GoodU s'.toks v) X.xe s
section
variable {X : Cx} {ν : List Str} {a b c e o : Expr} {es : List Expr} {ta tb tc te to : TE} {t : TA} {pos p p2 p3 apos cpos : Pos} {x y : Str}
theorem peg_str {z : Str} {j : Nat} : PEG X ν (.Constant (.str z) j pos) (tC (.str z)) := by
  refine ⟨fun pins s σ H Q I h1 h => Calls.Constant_str ⟨(ev_tok I (x := .str z) ⟨_, rfl⟩ h).k, fun z' t e => ?_⟩⟩
  simp only [Value.str.injEq] at e
  obtain ⟨_, e⟩ := e
  have e' : s.toks = t := e
  exact ⟨show (1 : Nat) ≤ t by omega, Nat.lt_succ_of_le (Nat.le_of_eq e'.symm)⟩
/-- str(e) of an int -/
theorem peg_strI (hg : Gl X "str") (hm : X.mg "str" = none) (ha : PEK X ν e te)
    (he : starEach [e] X.env = [(false, eval e X.env)] := by rfl) : PEG X ν (.Call (.Name "str" p) [e] [] pos) (tCB (fun xs H Q => ∃ i, xs = [.int i] ∧ i.natAbs.log2 < 1920 ∧ Q (.str (toString i)) H) (tCons te tNil)) := by
  refine ⟨fun pins s σ H Q I h1 h => ?_⟩
  refine wpAny_Call_Name_kw (ld_blt I hg hm (by decide +kernel : bootBuiltins "str" = some (.type "str")) ?_ (by decide) (by decide))
  refine PyProof.Rows.callWith_type1 ?_ he rfl
  rw [he]
  show wpAny _ _ (spliced ((false, eval e X.env) :: [])) _ _ s
  refine Calls.spliced_cons (thk (ha.run pins s σ H _ I h) fun u s1 t1 ⟨k1, v, H1, f1, I1, r1, q1⟩ => ?_)
  obtain ⟨i, ei, hz, q⟩ := q1
  cases ei
  obtain ⟨t, rfl⟩ := r1
  refine Calls.spliced_nil (PySem.P.str_of_int hz ⟨EK.from k1 f1 (ev_tok I1 (x := .str (toString i)) ⟨_, rfl⟩ q).k, fun z' t' e => ?_⟩)
  simp only [Value.str.injEq] at e
  obtain ⟨_, e⟩ := e
  have e' : s1.toks = t' := e
  exact ⟨show (1 : Nat) ≤ t' by omega, Nat.lt_succ_of_le (Nat.le_of_eq e'.symm)⟩
/-! ### append to a list whose object is known -/
theorem app_z {E : Value → Shared → Prop} {pins : List (Addr × Obj)} {σ : L2.St} {H : Hp} {s : Shared} {D : Addr} {od : Obj} {xs : List V} {its : List Value} {n : Nat} {y : V} {v : Value} {Q : Value → Shared → Prop} (I : Inv X pins σ H s) (hD : H D = some (.frz od (.lst xs)))
    (hod : od = { cls := .type "list", data := .seq its.toArray n }) (hn : ∀ o' u', X.H_0 D ≠ some (.frz o' u')) (hz : xs.length < sizeLine) (r : RelV y v)
    (h : ∀ s' od', Inv X pins σ (upd H D (.frz od' (.lst (xs ++ [y])))) s' → od' = { cls := .type "list", data := .seq (its ++ [v]).toArray (n + 1) } → s'.toks = s.toks → Q .none s') :
    wpAny (model X.prog X.w) X.A (call (.builtin "list.append") [.ref D, v]) Q E s := by
  obtain ⟨e, hz', its', n', ri, e2⟩ := I.hok D _ hD
  have e' := e
  rw [e2] at e'
  have eo := (Option.some.inj e').trans hod
  simp only [Obj.mk.injEq, Data.seq.injEq, true_and, and_true] at eo
  obtain ⟨ei, en⟩ := eo
  have ei' : its' = its := by simpa using congrArg Array.toList ei
  subst ei' en
  have I1 := I.unlock hD hn
  have hl := ri.length
  have hD1 : upd H D (.lst xs) D = some (.lst xs) := upd_same
  refine append_at (hsz := by rw [List.size_toArray]; omega) e2 fun h' sb ho' => ?_
  have I2 := I1.write (o := .lst (xs ++ [y])) (h' := h') (t' := s.toks) (by rw [hD1]; trivial) (.inl rfl) (fun b u hb q => (sb.2 b hb).trans q) ⟨_, ho'⟩ ⟨by rw [List.length_append]; exact hz, its' ++ [v], n' + 1, ri.append (.cons r .nil), by rw [ho']; simp⟩
  rw [upd_upd] at I2
  obtain ⟨od', I3⟩ := I2.lock (d := D) (u := .lst (xs ++ [y])) upd_same trivial
  rw [upd_upd] at I3
  refine h _ od' I3 ?_ rfl
  obtain ⟨e3, _⟩ := I3.hok D _ upd_same
  have e3' : h'.get? D = some od' := e3
  rw [ho'] at e3'
  rw [← Option.some.inj e3']
  simp
/-! ### a comprehension whose items are of good tokens -/
def tLcZ (wi : TI) (g : TG) (te : TE) (vs : List Nat) : TE := fun σ H Q => wi σ H fun J H1 => ∀ D, H1 D = none → ∃ W : Nat → Nat → Hp → Prop, (∃ m, ∀ od, W 0 m (upd H1 D (.frz od (.lst [])))) ∧ ∀ i m H, W i m H →
  (J.stop i H ∧ Q (.ref D) H) ∨ (J.go i H ∧ ∃ Nx : Hp → Prop, (∀ H', Nx H' → ∃ m', m' < m ∧ W (i + 1) m' H') ∧ ∀ x H', J.yld i H x H' → g x (wipe σ vs) H' fun σ2 H2 => wipe σ2 vs = wipe σ vs ∧
    te σ2 H2 fun y H4 => ∃ acc od, H4 D = some (.frz od (.lst acc)) ∧ acc.length < sizeLine ∧ ∀ od', Nx (upd H4 D (.frz od' (.lst (acc ++ [y])))))
theorem lcz {pins : List (Addr × Obj)} {s : Shared} {σ : L2.St} {H : Hp} {Q : VK} {elt tg iter : Expr} {scope : Scope} {own : List (Str × Nat)} {pos : Pos} {wi : TI} {g : TG} {te : TE} {R : Value → Shared → Prop}
    (hc : X.calm = true) (hN : X.N.Nodup) (I : Inv X pins σ H s) (h1 : 1 ≤ s.toks) (hi : PIK X [] tg iter wi) (ok : BlkOk X.N X.env.scope scope own)
    (hg : ∀ (s : Shared) (H : Hp) (C : Addr) (cl : List (Str × Addr)) (fp : List Addr), PGK (X.blk s H scope (compEnvC scope cl C X.env) fp) [] tg g)
    (he : ∀ (s : Shared) (H : Hp) (C : Addr) (cl : List (Str × Addr)) (fp : List Addr), PEG (X.blk s H scope (compEnvC scope cl C X.env) fp) [] elt te) (hs : ∀ x, foldedSetIterable iter X.env x = pure x)
    (h : tLcZ wi g te (own.map (·.2)) σ H Q)
    (fin : ∀ (D : Addr) (s' : Shared) (H' : Hp) (od : Obj) (ys : List V) (its : List Value) (n : Nat), 1 ≤ s'.toks → Inv X pins σ H' s' → H' D = some (.frz od (.lst ys)) → od = { cls := .type "list", data := .seq its.toArray n } → GoodI (Pn s'.toks) its → Q (.ref D) H' → R (.ref D) s') :
    wpAny (model X.prog X.w) X.A (eval (.ListComp elt [⟨tg, iter, [], 0⟩] scope pos) X.env) R X.xe s := by
  rw [eval_ListComp]
  have hfree : ∀ y ∈ scope.names, y.2 = .free → ∃ c, X.env.cells.lookup y.1 = some c := fun y hy e => by
    rcases ok.free y hy e with k | k
    · exact I.ok.has _ (.inl k)
    · exact I.ok.has _ (.inr k)
  refine wpAny_comprehension_free rfl hs (closure_ok hfree) ok.kind (fun y hy e => by rw [ok.uniq y hy, e])
    (thk (hi.run pins s σ H _ I h) fun xv s1 t1 hx => thk hx fun itv s2 t2 h2 => ?_)
  obtain ⟨_, it, fp, tn, J, H2, e, _, I2, T, st2, f2, q⟩ := h2
  subst e
  refine wpAny_newObj_type (newEnv_comp ?_) (by show 0 ≤ sizeLine; decide)
  generalize hD : s2.heap.objs.size = D
  have hDn : H2 D = none := I2.hok.fresh (Nat.le_of_eq hD)
  obtain ⟨W, ⟨m0, w0⟩, turn⟩ := q D hDn
  generalize hs3 : ({ s2 with heap := s2.heap.push { cls := .type "list", data := .seq ([] : List Value).toArray } } : Shared) = s3
  have I3 : Inv X pins σ (upd H2 D (.lst [])) s3 := by
    rw [← hs3]
    refine I2.laid (t' := s2.toks) (fun b o e => Heap.get?_push_of_some _ e) (Nat.le_of_eq hD) ⟨Nat.zero_le _, [], 0, .nil, ?_⟩
    rw [← hD]
    exact Heap.get?_push_size _ rfl
  have h3 : s3.heap = s2.heap.push { cls := .type "list", data := .seq ([] : List Value).toArray } := by rw [← hs3]
  have t3 : s2.toks = s3.toks := by rw [← hs3]
  have d3 : s3.heap.get? D = some { cls := .type "list", data := .seq ([] : List Value).toArray } := by rw [h3, ← hD]; exact Heap.get?_push_size _ rfl
  have sz : ∀ b ∈ fp, b < s2.heap.objs.size := fun b hb => by
    obtain ⟨o, e, _⟩ := T.obj _ _ st2 b hb
    exact Heap.lt_size e
  have f3 : ∀ b ∈ fp, FpOk X pins (upd H2 D (.lst [])) b ∧ b < s3.heap.objs.size := fun b hb => by
    have hlt := sz b hb
    refine ⟨⟨?_, (f2 b hb).2⟩, by rw [h3, Heap.size_push]; exact Nat.lt_succ_of_lt hlt⟩
    rw [upd_ne (by rw [← hD]; exact Nat.ne_of_lt hlt)]
    exact (f2 b hb).1
  have st3 : tn 0 s3.heap := T.keep _ _ _ st2 fun b _ o e => by rw [h3]; exact Heap.get?_push_of_some _ e
  have I4 := block_start I3 ok hN f3
  have pg := hg s3 (upd H2 D (.lst [])) s3.heap.objs.size (cellsFrom (s3.heap.objs.size + 1) scope.names (cloFrom X.env.cells scope.names [])) fp
  have pe := he s3 (upd H2 D (.lst [])) s3.heap.objs.size (cellsFrom (s3.heap.objs.size + 1) scope.names (cloFrom X.env.cells scope.names [])) fp
  show codeAny _ _ (.compStart (.ListComp elt [⟨tg, iter, [], 0⟩] scope pos) 0 (.ref it) (.ref D) (compEnvC scope (cellsFrom (s3.heap.objs.size + 1) scope.names (cloFrom X.env.cells scope.names [])) s3.heap.objs.size X.env)) (compPost (model X.prog X.w) X.A X.xe _ _ (.ref D) s3.heap.objs.size) { s3 with heap := pushCells (s3.heap.push { cls := .type "dict", data := .dict #[] }) scope.names }
  have nfp : ∀ b ∈ fp, (upd H2 D (.lst [])) b = none := fun b hb => (f3 b hb).1.1
  have neD : ∀ b ∈ fp, b ≠ D := fun b hb z => by
    have := nfp b hb
    rw [z, upd_same] at this
    cases this
  generalize hce : compEnvC scope (cellsFrom (s3.heap.objs.size + 1) scope.names (cloFrom X.env.cells scope.names [])) s3.heap.objs.size X.env = ce at I4 pg pe ⊢
  have cL : ce.locals = s3.heap.objs.size := by subst hce; rfl
  have hH3D : upd H2 D (.lst []) D = some (.lst []) := upd_same
  have w0' : ∀ od, W 0 m0 (upd (upd H2 D (.lst [])) D (.frz od (.lst []))) := fun od => by rw [upd_upd]; exact w0 od
  generalize hH3 : upd H2 D (.lst []) = H3 at I3 I4 pg pe nfp f3 hH3D w0'
  generalize hs4 : ({ s3 with heap := pushCells (s3.heap.push { cls := .type "dict", data := .dict #[] }) scope.names } : Shared) = s4 at I4 ⊢
  have t4 : s3.toks = s4.toks := by rw [← hs4]
  have kp4 : ∀ b o, s3.heap.get? b = some o → s4.heap.get? b = some o := fun b o e => by rw [← hs4]; exact pushCells_keeps _ _ _ _ (Heap.get?_push_of_some _ e)
  have st4 : tn 0 s4.heap := T.keep _ _ _ st3 fun b _ o e => kp4 b o e
  have stat : ∀ {σ' : L2.St} {H' : Hp} {s' : Shared}, Inv (X.blk s3 H3 scope ce fp) [] σ' H' s' → (∀ b ∈ fp, H' b = none) → ∀ b ∈ fp, FpOk (X.blk s3 H3 scope ce fp) [] H' b := fun {σ' H' s'} I' hn b hb =>
    ⟨hn b hb, (I'.ok.exf b hb).1, I'.ok.exfs b hb, .inl hb, fun x c e => (I'.ok.exf b hb).2 x c e, fun p hp => absurd (show p ∈ ([] : List (Addr × Obj)) ++ [] from hp) (by simp)⟩
  have hH0 : ∀ o' u', (X.blk s3 H3 scope ce fp).H_0 D ≠ some (.frz o' u') := fun o' u' e => by
    have e' : H3 D = some (.frz o' u') := e
    rw [hH3D] at e'
    cases e'
  obtain ⟨od0, I4'⟩ := I4.lock hH3D trivial
  have eod0 : od0 = { cls := .type "list", data := .seq ([] : List Value).toArray } := by
    obtain ⟨e1, _⟩ := I4'.hok D _ upd_same
    rw [kp4 _ _ d3] at e1
    exact (Option.some.inj e1).symm
  have h14 : 1 ≤ s4.toks := by omega
  have loop : codeAny (model X.prog X.w) X.A (.compLoop (.ListComp elt [⟨tg, iter, [], 0⟩] scope pos) 0 (.ref it) (.ref D) ce) (compPost (model X.prog X.w) X.A X.xe none R (.ref D) s3.heap.objs.size) s4 := by
    refine compLoop_any (fun n s' => 1 ≤ s'.toks ∧ ∃ i H' od acc its k, Inv (X.blk s3 H3 scope ce fp) [] (wipe σ (own.map (·.2))) H' s' ∧ tn i s'.heap ∧ (∀ b ∈ fp, H' b = none) ∧ W i n H' ∧ H' D = some (.frz od (.lst acc)) ∧
      od = { cls := .type "list", data := .seq its.toArray k } ∧ GoodI (Pn s'.toks) its) ?_ m0 ⟨h14, 0, _, od0, [], [], 0, I4', st4, fun b hb => by rw [upd_ne (neD b hb)]; exact nfp b hb, w0' od0, upd_same, eod0, fun _ _ h => absurd h (by simp)⟩
    rintro n s5 ⟨h15, i, H5, od5, acc5, its5, k5, I5, st5, n5, w5, hD5, eod5, g5⟩
    rcases turn i n H5 w5 with ⟨stop, qq⟩ | ⟨go, Nx, hNx, step⟩
    · have td := T.done (X.blk s3 H3 scope ce fp) rfl rfl rfl hc i [] s5 _ H5 (fun _ _ => False) I5 (stat I5 n5) st5 stop
      refine thnF (thk td fun r s6 t6 q => And.intro t6 q) fun r s6 ⟨t6, hr, _, I6⟩ => ?_
      subst hr
      have I7 : Inv X pins σ H5 s6 := I3.call' (ch := fp) I6.os I6.base I6.hok I6.bare fun b hb => ⟨(f3 b hb).1.2.2.2.1, (f3 b hb).1.2.1, (f3 b hb).1.2.2.2.2.1, (f3 b hb).1.2.2.2.2.2⟩
      have nC : H5 s3.heap.objs.size = none := by
        have z : H5 ce.locals = none := I6.free
        rw [cL] at z
        exact z
      obtain ⟨m, hn, _⟩ := I6.loc
      have hn : s6.heap.Ns ce.locals m := hn
      rw [cL] at hn
      have f := I3.fpOk (Nat.le_refl _) nC
      refine ⟨m, hn, fun h'' sb => ?_⟩
      obtain ⟨f0, f1, f2, f3, f4, f5⟩ := f
      exact fin D _ H5 od5 acc5 its5 k5 (show 1 ≤ s6.toks by omega) (I7.turned (t' := s6.toks) (fun b o hb e => (sb.2 b hb).trans e) f0 f1 f3 f4 f5) hD5 eod5 (fun z t q => Pn.mono _ _ t t6 (g5 z t q)) qq
    · have ti := T.item (X.blk s3 H3 scope ce fp) rfl rfl rfl hc i [] s5 _ H5 (fun _ _ => False) I5 (stat I5 n5) st5 go
      refine thnF (thk ti fun r s6 t6 q => And.intro t6 q) fun r s6 ⟨t6, u, hr, h6⟩ => ?_
      subst hr
      refine thnF (thk h6 fun _ s7 t7 q => And.intro t7 q) fun _ s7 ⟨t7, _, x, I7, r7, y7, st7⟩ => ?_
      have I7' := I7.pinned (stat I7 n5) (T.obj _ _ st7)
      refine thnF (thk (pg.run _ s7 _ H5 x u _ I7' r7 (step x H5 y7)) fun _ s8 t8 q => And.intro t8 q) fun _ s8 ⟨t8, _, σ8, H8, z8, I8, hw8, q8⟩ => ?_
      refine wpAny_tests_nil ?_
      simp only [if_true]
      refine thnF (thk (pe.run _ s8 σ8 H8 _ I8 (by omega) q8) fun z s10 t10 q => And.intro t10 q) fun z s10 ⟨t10, ⟨_, yv, H10, z10, I10, r10, acc, od, hD10, hz10, nx⟩, gz⟩ => ?_
      have hD10' := z10 _ _ _ (z8 _ _ _ hD5)
      rw [hD10] at hD10'
      cases hD10'
      refine app_z (X := X.blk s3 H3 scope ce fp) I10 hD10 eod5 hH0 hz10 r10 fun s11 od' I11 eod' t11 => ?_
      obtain ⟨m', hm, w'⟩ := hNx _ (nx od')
      have pin' : ∀ b ∈ fp, ∀ o, s7.heap.get? b = some o → s11.heap.get? b = some o ∧ upd H10 D (.frz od' (.lst (acc5 ++ [yv]))) b = none := fun b hb o e =>
        let z := I11.pin (b, o) (List.mem_append_right _ (List.mem_append_right _ (mem_pinsAt hb e)))
        ⟨z.1, z.2.1⟩
      have hl : (wipe σ (own.map (·.2))).length = σ8.length := by rw [← hw8, wipe_length]
      have t511 : s5.toks ≤ s11.toks := by omega
      refine ⟨m', hm, by omega, i + 1, _, od', _, _, _, (I11.unpinned (pins := [])).weak hl (fun j v e => ?_), T.keep _ _ _ st7 fun b hb o e => (pin' b hb o e).1, fun b hb => ?_, w', upd_same, eod', fun y' t' h' => ?_⟩
      · rw [← hw8] at e
        exact (wipe_some e).1
      · obtain ⟨o, e, _⟩ := T.obj _ _ st7 b hb
        exact (pin' b hb o e).2
      · rcases List.mem_append.mp h' with h' | h'
        · exact Pn.mono _ _ t' t511 (g5 y' t' h')
        · rw [List.mem_singleton] at h'
          have := gz y' t' h'.symm
          exact ⟨this.1, by rw [t11]; exact this.2⟩
  exact codeAny_compStart_list loop (T.self X.A 0 _ _ _ st4 loop)
end
end DD

set_option Elab.async false
set_option linter.all false
set_option maxRecDepth 100000
set_option maxHeartbeats 4000000
/-! DD14: join to the token; defs whose answer is of a good token, defs that ask for good tokens; rules of a law's body. -/
namespace DD
open PySem PySem.Spec PyProof.Rows L2 Evl

theorem post_joinG {s : Shared} {sep : Str} {Q : Value → Shared → Prop} : ∀ (l : List (Str × Tok)), (Txt.join sep (l.map (·.1))).length ≤ sizeLine →
    (∀ t' k, (t' = s.toks ∧ k = s.toks + 1) ∨ (∃ p ∈ l, t' = p.2 ∧ k = s.toks) → Q (.str (Txt.join sep (l.map (·.1))) t') { s with toks := k }) → (joinMade sep l).post Q s
  | [], h, hq => ⟨h, hq _ _ (.inl ⟨rfl, rfl⟩)⟩
  | [p], h, hq => hq p.2 s.toks (.inr ⟨p, by simp, rfl, rfl⟩)
  | _ :: _ :: _, h, hq => ⟨h, hq _ _ (.inl ⟨rfl, rfl⟩)⟩
theorem mem_strValues : ∀ {l : List (Str × Tok)} {p : Str × Tok}, p ∈ l → Value.str p.1 p.2 ∈ strValues l
  | [], _, h => absurd h (by simp)
  | q :: l, p, h => by
    rcases List.mem_cons.mp h with e | h
    · subst e
      exact List.mem_cons_self
    · exact List.mem_cons_of_mem _ (mem_strValues h)
theorem join_raw {prog : Program} {w : World} {A : Around} {E : Value → Shared → Prop} {s : Shared} {x : Str} {t : Tok} {D : Addr} {its : List Value} {ys : List Str} {Q : Value → Shared → Prop} (hl : s.heap.IsList D its.toArray) (hi : StrsAre its ys)
    (hok : (ys.map (·.length)).sum + ys.length * x.length ≤ 16777216) (h1 : 1 ≤ s.toks) (g : GoodI (Pn s.toks) its) (h : ∀ t' k, s.toks ≤ k → @LE.le Nat _ 1 t' ∧ @LT.lt Nat _ t' k → Q (.str (Txt.join x ys) t') { s with toks := k }) :
    wpAny (model prog w) A (call (.builtin "str.join") [.str x t, .ref D]) Q E s := by
  obtain ⟨l, hv, ht⟩ := strsAre_values hi
  subst hv ht
  have hok' := joinOk_of hok
  unfold JoinOk at hok'
  rw [Bool.not_eq_true'] at hok'
  refine call_meets F.slot_str_join (typeIs_str _ _ _) F.entry_str_join (F.args_str_join_2 _ _) (meets_str_join_list x t D l hok') ⟨hl, post_joinG l (joinFit_length hok') fun t' k c => ?_⟩
  rcases c with ⟨c1, c2⟩ | ⟨p, hp, c1, c2⟩
  · subst c1 c2
    exact h _ _ (Nat.le_succ _) ⟨h1, Nat.lt_succ_self _⟩
  · subst c1 c2
    exact h _ _ (Nat.le_refl _) (g _ _ (mem_strValues hp))
section
variable {X : Cx} {ν : List Str} {a b c e o : Expr} {es : List Expr} {ta tb tc te to : TE} {t : TA} {pos p p2 p3 apos cpos : Pos} {x y : Str}
/-- sep.join([elt for ..]) -/
theorem peg_joinLc {z : Str} {j : Nat} {q0 : Pos} {elt tg iter : Expr} {scope : Scope} {own : List (Str × Nat)} {lpos : Pos} {wi : TI} {g : TG} (hc : X.calm = true) (hN : X.N.Nodup) (hi : PIK X [] tg iter wi) (ok : BlkOk X.N X.env.scope scope own)
    (hg : ∀ (s : Shared) (H : Hp) (C : Addr) (cl : List (Str × Addr)) (fp : List Addr), PGK (X.blk s H scope (compEnvC scope cl C X.env) fp) [] tg g)
    (he : ∀ (s : Shared) (H : Hp) (C : Addr) (cl : List (Str × Addr)) (fp : List Addr), PEG (X.blk s H scope (compEnvC scope cl C X.env) fp) [] elt te) (hs : ∀ x, foldedSetIterable iter X.env x = pure x := by intro _; rfl)
    (hbase : attributeBase (.Constant (.str z) j q0) "join" X.env (eval (.Constant (.str z) j q0) X.env) = eval (.Constant (.str z) j q0) X.env := by rfl)
    (hfew : ((backTo cpos (starEach [.ListComp elt [⟨tg, iter, [], 0⟩] scope lpos] X.env)).all (fun x => !x.1) && (backToKw cpos (keywordEach [] X.env)).all (fun x => x.1.isSome)
      && decide (([Expr.ListComp elt [⟨tg, iter, [], 0⟩] scope lpos] : List Expr).length + ([] : List Keyword).length + (if ([] : List Keyword).isEmpty then 0 else 1) < 30)) = true := by rfl)
    (hline : (apos.endLine == cpos.line) = true := by rfl) (hst : starEach [.ListComp elt [⟨tg, iter, [], 0⟩] scope lpos] X.env = [(false, eval (.ListComp elt [⟨tg, iter, [], 0⟩] scope lpos) X.env)] := by rfl) :
    ∀ (pins : List (Addr × Obj)) (s : Shared) (σ : L2.St) (H : Hp) (Q : VK), Inv X pins σ H s → 1 ≤ s.toks → tBM X.K "str" (rJoinK X.K) (tC (.str z)) (tCons (tLcZ wi g te (own.map (·.2))) tNil) σ H Q →
      wpAny (model X.prog X.w) X.A (eval (.Call (.Attribute (.Constant (.str z) j q0) "join" apos) [.ListComp elt [⟨tg, iter, [], 0⟩] scope lpos] [] cpos) X.env) (fun v s' => EP X pins σ Q v s' ∧ GoodU s'.toks v) X.xe s := by
  intro pins s σ H Q I h1 h
  obtain ⟨ty, h⟩ := h
  refine wpAny_Call_method_late hbase hfew hline rfl (Calls.Constant_str ?_)
  refine ⟨"str", _, PySem.F.plainAttrs_str, PySem.F.slot_str_join, PySem.F.type_str_join, typeIs_str _ _ _, (fun _ e => nomatch e), Calls.callWith_builtin rfl (Calls.evalArgs_plain ?_)⟩
  show wpAny _ _ (spliced ((false, eval (.ListComp elt [⟨tg, iter, [], 0⟩] scope lpos) X.env) :: [])) _ _ _
  refine Calls.spliced_cons (lcz hc hN (I.tok (s.toks + 1)) (by show 1 ≤ s.toks + 1; omega) hi ok hg he hs h fun D s' H' od ys its n t1 I' hD eod gi q => ?_)
  refine Calls.spliced_nil ?_
  obtain ⟨a, p', zs, ea, ep, hq, hz, q⟩ := q
  cases ea
  cases ep
  have ez : ys = zs.map V.str := I'.list_inj (show SqL X.K H' D ys from .inl (.inr ⟨od, hD⟩)) hq
  obtain ⟨e1, _, its', n', r, e2⟩ := I'.hok D _ hD
  rw [e2] at e1
  have eo := (Option.some.inj e1).trans eod
  simp only [Obj.mk.injEq, Data.seq.injEq, true_and, and_true] at eo
  have ei' : its' = its := by simpa using congrArg Array.toList eo.1
  subst ei'
  rw [ez] at r
  refine join_raw ⟨_, e2, rfl, _, rfl⟩ (strs_of_vals r) hz t1 gi fun t' k hk ht => ⟨⟨.str (Txt.join z zs), H', I'.tok k, ⟨t', rfl⟩, q⟩, fun y' t2 e => ?_⟩
  cases e
  exact ht
end

/-! ### a def's entry -/
def argMap (ps : List Str) (us : List Value) : Str → Option Value := fun y => (ps.zip us).reverse.lookup y
theorem enter {P : Program} {w : World} {K : PySem.W.Frag} {mg : Str → Option Value} {base : Heap} {x qual : Str} {st : Stmt} {f : Addr} {fd : FuncData} {N ps : List Str} {k : Nat} (F : Fun K x qual st f fd) (S : FnScope N ps (defScope st)) (hloc : ∀ y ∈ ps, (defScope st).names.lookup y = some .local)
    {A : Around} {outer : List Env} {s : Shared} {H : Hp} {args : Args} {us : List Value} {vs : List V} {Q : VK} {E : XK} {G : Shared → Value → Prop} (hr : Room (k + 1) A) (e0 : Env0 P w K mg base A outer s H) (hb : BindsTo s fd args (ps.zip us)) (r : Vals vs us) (hl : vs.length = ps.length) (hG : ∀ s', G s' .none)
    (body : ∀ (cdv : Value) (s1 : Shared), Room k (A.deeper (envOfC qual (defScope st) s.heap.objs.size f cdv)) → s.toks ≤ s1.toks → Inv (cxOf CX0 P w K mg base N qual (defScope st) f cdv A outer s H E).nox [] (start N vs) H s1 →
      s1.heap.Ns (cxOf CX0 P w K mg base N qual (defScope st) f cdv A outer s H E).nox.env.locals (argMap ps us) →
      wpAny (model P w) (cxOf CX0 P w K mg base N qual (defScope st) f cdv A outer s H E).nox.A (execs (defBody st) (cxOf CX0 P w K mg base N qual (defScope st) f cdv A outer s H E).nox.env)
        (fun fl s' => SP (cxOf CX0 P w K mg base N qual (defScope st) f cdv A outer s H E).nox [] { nx := fun _ H' => Q .non H', rt := Q } fl s' ∧ ∀ u, fl = .ret u → G s' u) (cxOf CX0 P w K mg base N qual (defScope st) f cdv A outer s H E).nox.xe s1) :
    codeAny (model P w) A (.call (.ref f) args) (fun r s' => L2.CR CX0 outer P w H s Q E r s' ∧ ∀ u, r = .ok (.ret u) → G s' u) s := by
  obtain ⟨oc, od, kV, doc, pm, an, cdv, ct, osl, rfl, lk, hcd⟩ := F.ex
  have KX : K.In s.heap := e0.mod.kin.keeps fun b o e => (e0.bs b o e).1
  have lim : s.heap.NoLimit := e0.mod.nolimit.keeps fun b o e => (e0.bs b o e).1
  have hul : us.length = ps.length := by rw [← r.length, hl]
  have hkind : ∀ y ∈ ps.zip us, (defScope st).names.lookup y.1 = some .local ∨ ((defScope st).names.lookup y.1 = some .cell ∧ ((cellsFrom (s.heap.objs.size + 1) (defScope st).names []).lookup y.1).isSome = true) := fun ⟨n, v⟩ hy => .inl (hloc n (List.of_mem_zip hy).1)
  refine codeAny_call_function hr.depth (KX _ _ lk) rfl S.co S.gen rfl (PySem.W.codeRec_of KX hcd) (hb _ _ _ _ ?_)
  refine PySem.wpAny_with_toks (Nat.le_refl _) (wpAny_newFunctionEnv_cells S.kind hkind fun env he s1 xx ht => ?_)
  subst he
  refine ⟨lim.keeps xx.toInCall.keep, codeAny_func ?_⟩
  have I : Inv (cxOf CX0 P w K mg base N qual (defScope st) f cdv A outer s H E) [] (start N vs) H s1 := inv_start S hr.hd e0 hl r xx
  have hkl : ∀ y ∈ ps.zip us, (envOfC qual (defScope st) s.heap.objs.size f cdv).kindOf y.1 = some .local := fun ⟨n, v⟩ hy => hloc n (List.of_mem_zip hy).1
  have hns : s1.heap.Ns s.heap.objs.size (argMap ps us) := by
    have h0 : s1.heap.Ns s.heap.objs.size (bindL (envOfC qual (defScope st) s.heap.objs.size f cdv).kindOf (ps.zip us) fun _ => none) := xx.toInCall.ns
    have hm : (bindL (envOfC qual (defScope st) s.heap.objs.size f cdv).kindOf (ps.zip us) fun _ => none) = argMap ps us := by
      funext y
      rw [bindL_loc _ _ hkl y]
      unfold argMap
      cases (ps.zip us).reverse.lookup y <;> rfl
    rw [hm] at h0
    exact h0
  refine wpAny_mono (body cdv s1 (hr.deeper _) ht (I.wish _) hns) (fun fl s' ⟨hs, hg⟩ => ?_) fun e s' hs => False.elim hs
  have hs := hs.unwish
  have fin : ∀ {σ' : L2.St} {H' : Hp} {v : V} {u : Value}, Inv (cxOf CX0 P w K mg base N qual (defScope st) f cdv A outer s H E) [] σ' H' s' → RelV v u → Q v H' → CE outer P w H s Q u s' :=
    fun {σ' H' v u} J rv q => ⟨v, H', J.os, J.bare, J.base, J.hok, rv, q⟩
  cases fl with
  | ret u =>
    obtain ⟨v, σ', H', J, rv, q⟩ := hs
    refine ⟨fin J rv q, fun u' e => ?_⟩
    cases e
    exact hg u rfl
  | next =>
    obtain ⟨σ', H', J, q⟩ := hs
    refine ⟨fin (v := V.non) (u := Value.none) J rfl q, fun u' e => ?_⟩
    cases e
    exact hG s'
  | brk =>
    obtain ⟨_, _, _, q⟩ := hs
    exact False.elim q
  | cont =>
    obtain ⟨_, _, _, q⟩ := hs
    exact False.elim q

/-! ### a def whose answer is of a good token -/
structure FnG (P : Program) (w : World) (K : PySem.W.Frag) (mg : Str → Option Value) (base : Heap) (f : Addr) (x : Str) (k n : Nat) (F : List D → Option D) : Prop where
  g : mg x = some (.ref f)
  kp : PySem.W.keepIn K (.ref f) = true
  ar : ∀ ds d, F ds = some d → ds.length = n
  run : ∀ (A : Around) (outer : List Env) (s : Shared) (H : Hp) (us : List Value) (vs : List V) (Q : VK) (E : XK), Room k A → Env0 P w K mg base A outer s H → Vals vs us → 1 ≤ s.toks → spD K n F vs H Q E →
    codeAny (model P w) A (.call (.ref f) ⟨us, []⟩) (fun r s' => L2.CR CX0 outer P w H s Q E r s' ∧ ∀ u, r = .ok (.ret u) → GoodU s'.toks u) s
structure PBG (X : Cx) (sts : List Stmt) (t : TS) : Prop where
  run : ∀ (pins : List (Addr × Obj)) (s : Shared) (σ : L2.St) (H : Hp) (D : Ends), Inv X pins σ H s → 1 ≤ s.toks → t D σ H → wpAny (model X.prog X.w) X.A (execs sts X.env) (fun f s' => SP X pins D f s' ∧ ∀ u, f = .ret u → GoodU s'.toks u) X.xe s
/-- an expression of a good token, without what else it keeps -/
structure PEH (X : Cx) (e : Expr) (t : TE) : Prop where
  run : ∀ (pins : List (Addr × Obj)) (s : Shared) (σ : L2.St) (H : Hp) (Q : VK), Inv X pins σ H s → 1 ≤ s.toks → t σ H Q → wpAny (model X.prog X.w) X.A (eval e X.env) (fun v s' => EP X pins σ Q v s' ∧ GoodU s'.toks v) X.xe s
section
variable {X : Cx} {ν : List Str} {c e : Expr} {es : List Expr} {te : TE} {tc : TT} {t : TA} {ts tu tv : TS} {a b sts : List Stmt} {pos p : Pos} {x : Str}
theorem PEG.h (h : PEG X ν e te) : PEH X e te := ⟨fun pins s σ H Q I h1 q => thn (h.run pins s σ H Q I h1 q) fun _ _ z => ⟨z.1.ep, z.2⟩⟩
theorem pbg_ret (h : PEH X e te) : PBG X [.Return (some e) pos] (tRet te) := by
  refine ⟨fun pins s σ H D I h1 q => ?_⟩
  refine wpAny_execs_cons (wpAny_Return_some (thn (h.run pins s σ H _ I h1 q) fun v s1 ⟨⟨x, H1, I1, r1, q1⟩, g⟩ => ⟨⟨x, σ, H1, I1, r1, q1⟩, fun u eu => ?_⟩))
  cases eu
  exact g
theorem pbg_if (hc : PT X c tc) (ha : PBG X a ts) (hb : PBG X sts tv) : PBG X (.If c a [] pos :: sts) (tSeq (tIfS tc ts tNext) tv) := by
  refine ⟨fun pins s σ H D I h1 q => ?_⟩
  refine wpAny_execs_cons (wpAny_If (thk (hc.run pins s σ H _ I q) fun d s1 t1 ⟨H1, I1, q1⟩ => ?_))
  cases d with
  | true =>
    refine thk (ha.run pins s1 σ H1 _ I1 (by omega) q1) fun f s2 t2 ⟨q2, g2⟩ => ?_
    cases f with
    | next =>
      obtain ⟨σ', H', I', q'⟩ := q2
      exact hb.run pins s2 σ' H' D I' (by omega) q'
    | ret u => exact ⟨q2, g2⟩
    | brk => exact ⟨q2, g2⟩
    | cont => exact ⟨q2, g2⟩
  | false =>
    exact wpAny_execs_nil (hb.run pins s1 σ H1 D I1 (by omega) q1)
theorem run_fnG {k n : Nat} {f : Addr} {F : List D → Option D} {pins : List (Addr × Obj)} {σ : L2.St} {H : Hp} {s : Shared} {Q : VK} {us : List Value} {vs : List V}
    (T : FnG X.prog X.w X.K X.mg X.base f x k n F) (hr : Room k X.A) (I : Inv X pins σ H s) (r : Vals vs us) (h1 : 1 ≤ s.toks) (h : spD X.K n F vs H Q E0) : wpAny (model X.prog X.w) X.A (call (.ref f) us) (fun v s' => EK X ν pins σ s H Q v s' ∧ GoodU s'.toks v) X.xe s := by
  refine wpAny_call (codeAny_mono (T.run X.A X.stack s H us vs Q E0 hr I.env0 r h1 h) fun r s' hq => ?_)
  obtain ⟨hq, hg⟩ := hq
  cases r with
  | error e => exact pass0 pins σ H s e s' I hq
  | ok fl =>
    cases fl with
    | ret u => exact ⟨Inv.afterK I hq, hg u rfl⟩
    | next => exact False.elim hq
    | brk => exact False.elim hq
    | cont => exact False.elim hq
theorem peg_call {k n : Nat} {f : Addr} {F : List D → Option D} (T : FnG X.prog X.w X.K X.mg X.base f x k n F) (hr : Room k X.A) (hg : Gl X x) (ha : PAK X ν (e :: es) t)
    (hdb : (x == ("__debug__" : Str)) = false := by decide) (he : starEach (e :: es) X.env = (false, eval e X.env) :: starEach es X.env := by rfl) (hpl : (backTo pos (starEach es X.env)).any (·.1) = false := by rfl) :
    PEG X ν (.Call (.Name x p) (e :: es) [] pos) (tCall (spD X.K n F) [] E0 t) := by
  refine ⟨fun pins s σ H Q I h1 h => ?_⟩
  refine wpAny_Call_Name_kw (ld_glob I hg T.g ?_ hdb)
  refine PySem.W.callWith_K (h₀ := X.base) I.ok.mod.kin T.kp (thk (ha.run pos pins s σ H _ I h) fun us s1 t1 ⟨k1, vs, H1, f1, I1, r, q⟩ => ⟨I1.kIn, ?_⟩) he hpl
  have q : spD X.K n F (vs ++ []) H1 Q E0 := q
  rw [List.append_nil] at q
  exact thn (run_fnG T hr I1 r (by omega) q) fun _ _ z => ⟨EK.from k1 f1 z.1, z.2⟩
/-- x, y = e1, e2, both of good tokens -/
theorem z_par {i j : Nat} {x y : Str} {a b : Expr} {ta tb : TE} {px py pt pos : Pos} {kt k2 : Nat} {pt2 : Pos} {n0 : Nat} (h0 : 1 ≤ n0) (hN : X.N.Nodup) (ha : PEH X a ta) (hb : PEH X b tb) (hw : swappedStores [.Tuple [.Name x px, .Name y py] kt pt] (.Tuple [a, b] k2 pt2) X.env = pure (some [x, y]) := by rfl)
    (hi : X.N[i]? = some x := by rfl) (hj : X.N[j]? = some y := by rfl) (hij : i ≠ j := by decide) (hxy : x ≠ y := by decide) (hx : X.env.scope.names.lookup x = some .local := by rfl) (hy : X.env.scope.names.lookup y = some .local := by rfl) (hc : X.calm = true := by rfl)
    (hs : swapsWithSole [.Tuple [.Name x px, .Name y py] kt pt] (.Tuple [a, b] k2 pt2) pos.line X.env = pure false := by rfl)
    (hst : starEach [a, b] X.env = [(false, eval a X.env), (false, eval b X.env)] := by rfl) :
    PSZ X n0 [] [⟨x, false, Pn⟩, ⟨y, false, Pn⟩] (.Assign [.Tuple [.Name x px, .Name y py] kt pt] (.Tuple [a, b] k2 pt2) pos) (tPar i j (tCons ta (tCons tb tNil))) := by
  refine ⟨fun pins s σ H D I nz h => ?_⟩
  rw [exec_Assign_arm]
  refine wpAny_bind (wpAny_standAt ?_)
  rw [hs]
  refine wpAny_bind (wpAny_pure ?_)
  rw [if_neg (by decide)]
  refine wpAny_bind (Tuple_ ?_)
  rw [hst]
  show wpAny _ _ (spliced ((false, eval a X.env) :: (false, eval b X.env) :: [])) _ _ s
  have h0s : 1 ≤ s.toks := Nat.le_trans h0 nz.1
  refine Calls.spliced_cons (thk (ha.run pins s σ H _ I h0s h) fun u1 s1 t1 ⟨⟨v1, H1, I1, r1, q1⟩, g1⟩ => ?_)
  refine Calls.spliced_cons (thk (hb.run pins s1 σ H1 _ I1 (by omega) q1) fun u2 s2 t2 ⟨⟨v2, H2, I2, r2, q2⟩, g2⟩ => ?_)
  refine Calls.spliced_nil ?_
  obtain ⟨v, w', ev, q3⟩ := q2
  simp only [List.cons.injEq, and_true] at ev
  obtain ⟨ev1, ev2⟩ := ev
  subst ev1 ev2
  refine wpAny_newObj_type ?_ (by show 2 ≤ sizeLine; decide)
  have I3 : Inv X pins σ H2 { s2 with heap := s2.heap.push { cls := .type "tuple", data := .seq [u1, u2].toArray } } := I2.kept (t' := s2.toks) fun b o e => Heap.get?_push_of_some _ e
  rw [hw]
  refine wpAny_bind (wpAny_pure ?_)
  show wpAny (model X.prog X.w) X.A (do rule "assign.swapped-stores"; let items ← unpackItems (.ref s2.heap.objs.size) 2 none; assignInOrder [fun v => bindName X.env y v, fun v => bindName X.env x v] items.reverse; pure Flow.next) _ _ _
  refine wpAny_bind (wpAny_rule (wpAny_bind (unpackItems_tuple (items := #[u1, u2]) (I.ok.hd hc) (IsTup.new s2.heap _) fun h' hx' => ?_)))
  have I4 := I3.kept (h' := h') (t' := s2.toks) fun b o e => hx' b o (Nat.ne_of_lt (Heap.lt_size e)) e
  show wpAny _ _ (assignInOrder [fun v => bindName X.env y v, fun v => bindName X.env x v] [u2, u1] >>= fun _ => pure Flow.next) _ _ _
  obtain ⟨m4, hm4, _⟩ := id I4.loc
  refine wpAny_bind (assignInOrder_cons (wpAny_bindName (store_k I4 hN hj hy r2 hm4 (fun s5 I5 n5 t5 => ?_))))
  refine assignInOrder_cons (wpAny_bindName (store_k I5 hN hi hx r1 n5 (fun s6 I6 n6 t6 => assignInOrder_nil (wpAny_pure ?_))))
  rw [List.set_comm _ _ (Ne.symm hij)] at I6
  have t5' : s2.toks ≤ s5.toks := t5
  have h0n := nz.1
  refine ⟨rfl, _, H2, I6, ⟨by omega, _, n6, fun f hf => ?_⟩, q3⟩
  rcases List.mem_cons.mp hf with e | hf
  · subst e
    refine ⟨(fun e => nomatch e), fun _ z t' q => ?_⟩
    simp only [if_true] at q
    cases q
    have := g1 z t' rfl
    exact ⟨this.1, Nat.lt_of_lt_of_le this.2 (by omega)⟩
  · rw [List.mem_singleton] at hf
    subst hf
    refine ⟨(fun e => nomatch e), fun _ z t' q => ?_⟩
    simp only [if_neg (Ne.symm hxy), if_true] at q
    cases q
    have := g2 z t' rfl
    exact ⟨this.1, Nat.lt_of_lt_of_le this.2 (by omega)⟩

/-! ### a def that asks for good tokens -/
theorem pbn_p {n0 : Nat} {st : Stmt} (h : PS X st ts) (h2 : PBN X n0 [] sts tu) : PBN X n0 [] (st :: sts) (tSeq ts tu) := by
  refine ⟨fun pins s σ H D I nz q => ?_⟩
  refine wpAny_execs_cons (thk (h.run pins s σ H { D with nx := tu D } I q) fun f s1 t1 q1 => ?_)
  cases f with
  | next =>
    obtain ⟨σ', H', I', q⟩ := q1
    obtain ⟨m, hm, _⟩ := id I'.loc
    exact h2.run pins s1 σ' H' D I' ⟨Nat.le_trans nz.1 t1, m, hm, fun f hf => absurd hf (by simp)⟩ q
  | ret v => exact q1
  | brk => exact q1
  | cont => exact q1
/-- the facts of the texts are fixed at a number B, the list of written texts lies between B and T -/
theorem pbn_pieces {n0 i : Nat} {es : List Expr} {tl : TA} {xs : List Str} {pos cpos pos' : Pos} {sts : List Stmt} {tu : TS}
    (ha : ∀ B, 1 ≤ B → PAZ X B (xs.map fun y => ⟨y, false, fun _ t => 1 ≤ t ∧ t < B⟩) es (fun n t => B ≤ t ∧ t < n) tl) (h0 : 1 ≤ n0) (hN : X.N.Nodup) (hν : x ∉ xs)
    (rest : ∀ B T, 1 ≤ B → B ≤ T → PBN X T (⟨x, true, fun _ t => B ≤ t ∧ t < T⟩ :: xs.map fun y => ⟨y, false, fun _ t => 1 ≤ t ∧ t < B⟩) sts tu)
    (hi : X.N[i]? = some x := by rfl) (hk : X.env.scope.names.lookup x = some .local := by rfl) (hs : swapsWith (.List es cpos) (some (.Name x pos')) pos.line X.env = pure false := by rfl) :
    PBN X n0 (xs.map fun y => ⟨y, false, Pn⟩) (.Assign [.Name x pos'] (.List es cpos) pos :: sts) (tSeq (tAsg (tLstZ tl) (gName i)) tu) := by
  refine ⟨fun pins s σ H D I nz q => ?_⟩
  obtain ⟨h1, m, hm, hf⟩ := nz
  have hB : 1 ≤ s.toks := Nat.le_trans h0 h1
  have mo : Mono (xs.map fun y => (⟨y, false, fun _ t => 1 ≤ t ∧ t < s.toks⟩ : Fact)) := fun f hf n n' t _ h => by
    obtain ⟨y, _, rfl⟩ := List.mem_map.mp hf
    exact h
  have nz' : Nz X s.toks (xs.map fun y => (⟨y, false, fun _ t => 1 ≤ t ∧ t < s.toks⟩ : Fact)) s H := ⟨Nat.le_refl _, m, hm, fun f hf' => by
    obtain ⟨y, hy, rfl⟩ := List.mem_map.mp hf'
    exact ⟨(fun e => nomatch e), (hf ⟨y, false, Pn⟩ (List.mem_map.mpr ⟨y, hy, rfl⟩)).2⟩⟩
  have hν' : x ∉ names (xs.map fun y => (⟨y, false, fun _ t => 1 ≤ t ∧ t < s.toks⟩ : Fact)) := by
    simpa [names, List.map_map, Function.comp_def] using hν
  have z := z_lst (n0 := s.toks) (pos := pos) (cpos := cpos) (pos' := pos') (i := i) mo (fun n n' t l h => ⟨h.1, Nat.lt_of_lt_of_le h.2 l⟩) (ha s.toks hB) hN hν' hi hk hs
  refine wpAny_execs_cons (thk (z.run pins s σ H { D with nx := tu D } I nz' q) fun f s1 t1 ⟨ef, σ1, H1, I1, z1, q1⟩ => ?_)
  subst ef
  obtain ⟨_, m1, hm1, hf1⟩ := z1
  refine (rest s.toks s1.toks hB t1).run pins s1 σ1 H1 D I1 ⟨Nat.le_refl _, m1, hm1, fun f hf' => ?_⟩ q1
  rcases List.mem_cons.mp hf' with e | hf'
  · subst e
    exact ⟨(hf1 ⟨x, true, fun n t => s.toks ≤ t ∧ t < n⟩ List.mem_cons_self).1, (fun e => nomatch e)⟩
  · obtain ⟨y, hy, rfl⟩ := List.mem_map.mp hf'
    exact hf1 _ (List.mem_cons_of_mem _ (List.mem_map.mpr ⟨y, hy, rfl⟩))
end
structure FnZ (P : Program) (w : World) (K : PySem.W.Frag) (mg : Str → Option Value) (base : Heap) (f : Addr) (x : Str) (k : Nat) (ps : List Str) (n0 : Nat) (τ : List Fact) (F : List D → Option D) : Prop where
  g : mg x = some (.ref f)
  kp : PySem.W.keepIn K (.ref f) = true
  ar : ∀ ds d, F ds = some d → ds.length = ps.length
  run : ∀ (A : Around) (outer : List Env) (s : Shared) (H : Hp) (us : List Value) (vs : List V) (Q : VK) (E : XK), Room k A → Env0 P w K mg base A outer s H → Vals vs us → n0 ≤ s.toks → (∀ f ∈ τ, f.ok s.toks (argMap ps us) H) → spD K ps.length F vs H Q E →
    codeAny (model P w) A (.call (.ref f) ⟨us, []⟩) (L2.CR CX0 outer P w H s Q E) s
section
variable {P : Program} {w : World} {K : PySem.W.Frag} {mg : Str → Option Value} {base : Heap}
theorem spD_len {n : Nat} {F : List D → Option D} {vs : List V} {H : Hp} {Q : VK} {E : XK} (h : spD K n F vs H Q E) : vs.length = n := by
  obtain ⟨_, _, _, h1, _⟩ := h
  exact h1
/-- what a body of a meaning owes -/
theorem body_of {X : Cx} {N : List Str} {n : Nat} {m : MS} {t : TS} {vs : List V} {H : Hp} {Q : VK} {E : XK} (hm : SM X.K W0 t m) (h : spD X.K n (runF N n m) vs H Q E) : t { nx := fun _ H' => Q .non H', rt := Q } (L2.start N vs) H := by
  obtain ⟨G, ds, d, h1, e, r, h2, q⟩ := h
  unfold runF at h2
  split at h2
  · split at h2
    · rename_i d' hmm
      cases h2
      exact hm _ _ hmm G H G H _ _ (cfg_start e r) fun v G' H' wd rv => q v G' H' wd rv
    · rename_i ρ' hmm
      cases h2
      exact hm _ _ hmm G H G H _ _ (cfg_start e r) fun G' H' σ' _ c' => q .non G' H' c'.wd0 (.val _)
    · cases h2
  · cases h2
theorem runF_len {N : List Str} {n : Nat} {m : MS} {ds : List D} {d : D} (h : runF N n m ds = some d) : ds.length = n := by
  unfold runF at h
  split at h
  · assumption
  · cases h
theorem fnG_of {x qual : Str} {st : Stmt} {f : Addr} {fd : FuncData} {N ps : List Str} {k n : Nat} {m : MS} (F : Fun K x qual st f fd) (S : FnScope N ps (defScope st)) (hb : Binds K fd ps []) (hg : mg x = some (.ref f)) (hn : ps.length = n) (hloc : ∀ y ∈ ps, (defScope st).names.lookup y = some .local)
    (body : ∀ (cdv : Value) (A : Around) (outer : List Env) (s : Shared) (H : Hp) (E : XK), Room k (A.deeper (envOfC qual (defScope st) s.heap.objs.size f cdv)) →
      ∃ t, PBG (cxOf CX0 P w K mg base N qual (defScope st) f cdv A outer s H E).nox (defBody st) t ∧ SM K W0 t m) : FnG P w K mg base f x (k + 1) n (runF N n m) := by
  refine ⟨hg, F.kp, fun ds d h => runF_len h, fun A outer s H us vs Q E hr e0 r h1 h => ?_⟩
  have hl : vs.length = ps.length := (spD_len h).trans hn.symm
  have KX : K.In s.heap := e0.mod.kin.keeps fun b o e => (e0.bs b o e).1
  have hb' := hb s us KX (by rw [List.append_nil, ← r.length, hl])
  rw [List.append_nil] at hb'
  refine enter F S hloc hr e0 hb' r hl (fun _ _ _ e => nomatch e) fun cdv s1 hr1 ht I _ => ?_
  obtain ⟨t, hp, hm⟩ := body cdv A outer s H E hr1
  exact hp.run [] s1 _ H _ I (Nat.le_trans h1 ht) (body_of (X := cxOf CX0 P w K mg base N qual (defScope st) f cdv A outer s H E) hm h)
theorem fnZ_of {x qual : Str} {st : Stmt} {f : Addr} {fd : FuncData} {N ps : List Str} {k n0 : Nat} {τ : List Fact} {m : MS} (mo : Mono τ) (F : Fun K x qual st f fd) (S : FnScope N ps (defScope st)) (hb : Binds K fd ps []) (hg : mg x = some (.ref f)) (hloc : ∀ y ∈ ps, (defScope st).names.lookup y = some .local)
    (body : ∀ (cdv : Value) (A : Around) (outer : List Env) (s : Shared) (H : Hp) (E : XK), Room k (A.deeper (envOfC qual (defScope st) s.heap.objs.size f cdv)) →
      ∃ t, PBN (cxOf CX0 P w K mg base N qual (defScope st) f cdv A outer s H E).nox n0 τ (defBody st) t ∧ SM K W0 t m) : FnZ P w K mg base f x (k + 1) ps n0 τ (runF N ps.length m) := by
  refine ⟨hg, F.kp, fun ds d h => runF_len h, fun A outer s H us vs Q E hr e0 r h1 ha h => ?_⟩
  have hl : vs.length = ps.length := spD_len h
  have KX : K.In s.heap := e0.mod.kin.keeps fun b o e => (e0.bs b o e).1
  have hb' := hb s us KX (by rw [List.append_nil, ← r.length, hl])
  rw [List.append_nil] at hb'
  refine codeAny_mono (enter (G := fun _ _ => True) F S hloc hr e0 hb' r hl (fun _ => trivial) fun cdv s1 hr1 ht I hns => ?_) fun _ _ z => z.1
  obtain ⟨t, hp, hm⟩ := body cdv A outer s H E hr1
  refine thn (hp.run [] s1 _ H _ I ⟨Nat.le_trans h1 ht, _, hns, fun f hf => (ha f hf).keep (mo f hf) ht rfl Fz.refl⟩ (body_of (X := cxOf CX0 P w K mg base N qual (defScope st) f cdv A outer s H E) hm h)) fun _ _ z => ⟨z, fun _ _ => trivial⟩
/-- the law itself -/
theorem fnL_of {x qual : Str} {st : Stmt} {f : Addr} {fd : FuncData} {N ps : List Str} {k n0 : Nat} {m : MS} {sp : Sp} (F : Fun K x qual st f fd) (S : FnScope N ps (defScope st)) (hloc : ∀ y ∈ ps, (defScope st).names.lookup y = some .local) (len : ∀ vs H Q E, sp vs H Q E → vs.length = ps.length)
    (body : ∀ (cdv : Value) (A : Around) (outer : List Env) (s : Shared) (H : Hp) (vs : List V) (Q : VK) (E : XK), Room k (A.deeper (envOfC qual (defScope st) s.heap.objs.size f cdv)) → sp vs H Q E →
      ∃ t, PBN (cxOf CX0 P w K mg base N qual (defScope st) f cdv A outer s H E).nox 0 [] (defBody st) t ∧ t { nx := fun _ H' => Q .non H', rt := Q } (L2.start N vs) H) : FnOk P w K mg base CX0 (k + 1) f fd ps sp := by
  refine ⟨len, fun A outer s H args us vs Q E hr e0 hb r h => ?_⟩
  have hl := len _ _ _ _ h
  refine codeAny_mono (enter (G := fun _ _ => True) F S hloc hr e0 hb r hl (fun _ => trivial) fun cdv s1 hr1 ht I hns => ?_) fun _ _ z => z.1
  obtain ⟨t, hp, hq⟩ := body cdv A outer s H vs Q E hr1 h
  exact thn (hp.run [] s1 _ H _ I ⟨Nat.zero_le _, _, hns, fun f hf => absurd hf (by simp)⟩ hq) fun _ _ z => ⟨z, fun _ _ => trivial⟩
end
end DD

set_option Elab.async false
set_option linter.all false
set_option maxRecDepth 100000
set_option maxHeartbeats 4000000
/-! DD15: the K- and N-judgements with their meaning over data. -/
namespace DD
open PySem PySem.Spec PyProof.Rows L2 Evl

section
variable {X : Cx} {n0 : Nat} {τ : List Fact} {b : Expr} {tb : TE} {pos p q0 q1 : Pos} {x y0 y2 : Str}
theorem pen_texts {f : Addr} {F : List D → Option D} {k i0 i2 : Nat} {p0 p1 p2 : Str} {P0 P2 : Nat → Nat → Prop} (mo : Mono τ) (T : FnZ X.prog X.w X.K X.mg X.base f x k [p0, p1, p2] n0 [⟨p0, false, P0⟩, ⟨p2, true, P2⟩] F) (hr : Room k X.A) (hx : ⟨y0, false, P0⟩ ∈ τ) (hz : ⟨y2, true, P2⟩ ∈ τ) (hb : PEK X (names τ) b tb)
    (hg : Gl X x := by rfl) (hi0 : X.N[i0]? = some y0 := by rfl) (hk0 : X.env.scope.names.lookup y0 = some .local := by rfl) (hi2 : X.N[i2]? = some y2 := by rfl) (hk2 : X.env.scope.names.lookup y2 = some .local := by rfl)
    (hdb : (x == ("__debug__" : Str)) = false := by decide) (hd0 : (y0 == ("__debug__" : Str)) = false := by decide) (hd2 : (y2 == ("__debug__" : Str)) = false := by decide)
    (h0 : ∀ u0 u1 u2 : Value, argMap [p0, p1, p2] [u0, u1, u2] p0 = some u0 := by intro _ _ _; rfl) (h2 : ∀ u0 u1 u2 : Value, argMap [p0, p1, p2] [u0, u1, u2] p2 = some u2 := by intro _ _ _; rfl)
    (he : starEach [.Name y0 q0, b, .Name y2 q1] X.env = (false, eval (.Name y0 q0) X.env) :: starEach [b, .Name y2 q1] X.env := by rfl)
    (he2 : starEach [b, .Name y2 q1] X.env = [(false, eval b X.env), (false, eval (.Name y2 q1) X.env)] := by rfl) (hpl : (backTo pos (starEach [b, .Name y2 q1] X.env)).any (·.1) = false := by rfl) :
    PEN X n0 τ (.Call (.Name x p) [.Name y0 q0, b, .Name y2 q1] [] pos) (tCall (spD X.K 3 F) [] E0 (tCons (tVar i0) (tCons tb (tCons (tVar i2) tNil)))) := by
  refine ⟨fun pins s σ H Q I nz h => ?_⟩
  obtain ⟨v0, e0, h⟩ := h
  obtain ⟨hn, m, hm, hf⟩ := id nz
  obtain ⟨u0, r0, m0⟩ := raw_at I hm hi0 hk0 e0
  refine wpAny_Call_Name_kw (ld_glob I hg T.g ?_ hdb)
  refine PySem.W.callWith_K (h₀ := X.base) I.ok.mod.kin T.kp ?_ he hpl
  rw [he, he2]
  show wpAny _ _ (spliced ((false, eval (.Name y0 q0) X.env) :: (false, eval b X.env) :: (false, eval (.Name y2 q1) X.env) :: [])) _ _ s
  refine Calls.spliced_cons (raw_ld I hm hk0 m0 ?_ hd0)
  refine Calls.spliced_cons (thk (hb.run pins s σ H _ I h) fun u1 s1 t1 ⟨k1, v1, H1, f1, I1, r1, q1⟩ => ?_)
  obtain ⟨v2, e2, q1⟩ := q1
  have nz1 := nz.keep mo k1 t1 f1
  obtain ⟨hn1, m1, hm1, hf1⟩ := nz1
  obtain ⟨u2, r2, mu2⟩ := raw_at I1 hm1 hi2 hk2 e2
  refine Calls.spliced_cons (raw_ld I1 hm1 hk2 mu2 (Calls.spliced_nil ⟨I1.kIn, ?_⟩) hd2)
  have q : spD X.K 3 F ([v0, v1, v2] ++ []) H1 Q E0 := q1
  rw [List.append_nil] at q
  show wpAny (model X.prog X.w) X.A (call (.ref f) [u0, u1, u2]) (EK X (names τ) pins σ s H Q) X.xe s1
  refine wpAny_call (codeAny_mono (T.run X.A X.stack s1 H1 [u0, u1, u2] [v0, v1, v2] Q E0 hr I1.env0 (.cons r0 (.cons r1 (.cons r2 .nil))) hn1 (fun fc hfc => ?_) q) fun r s' hq => ?_)
  · rcases List.mem_cons.mp hfc with e | hfc
    · subst e
      refine ⟨(fun e => nomatch e), fun _ z t e => ?_⟩
      rw [h0] at e
      cases e
      exact mo _ hx _ _ t t1 ((hf _ hx).2 rfl z t m0)
    · rw [List.mem_singleton] at hfc
      subst hfc
      refine ⟨fun _ => ?_, (fun e => nomatch e)⟩
      obtain ⟨u', mu', g'⟩ := (hf1 _ hz).1 rfl
      have mu'' : m1 y2 = some u' := mu'
      rw [mu2] at mu''
      cases mu''
      exact ⟨u2, h2 _ _ _, g'⟩
  · cases r with
    | error e => exact pass0 pins σ H1 s1 e s' I1 hq
    | ok fl =>
      cases fl with
      | ret u => exact EK.from k1 f1 (Inv.afterK I1 hq)
      | next => exact False.elim hq
      | brk => exact False.elim hq
      | cont => exact False.elim hq
end

/-! ### meanings -/
section
variable {K : PySem.W.Frag} {te : TE} {me : ME} {tl : TA} {ml : MA}
def addK : D → D → Option D
  | .val (.int i), .val (.int j) => some (.int (i + j))
  | .val (.str x), .val (.str y) => if x.length + y.length ≤ big then some (.str (x ++ y)) else none
  | .lst xs, .lst ys => if xs.length + ys.length ≤ big then some (.lst (xs ++ ys)) else none
  | _, _ => none
theorem r2_addK : R2M K (rAddK K) addK := fun x y a b d G H e ra rb h Q q => by
  unfold addK at h
  split at h
  · cases h
    cases rp_val ra
    cases rp_val rb
    exact .inl ⟨_, _, rfl, rfl, q _ G H (Wd.refl e) (.val _)⟩
  · split at h
    · cases h
      cases rp_val ra
      cases rp_val rb
      exact .inr (.inl ⟨_, _, rfl, rfl, big_line (by assumption), q _ G H (Wd.refl e) (.val _)⟩)
    · cases h
  · split at h
    · cases h
      obtain ⟨p, vs, rfl, h1, r1⟩ := rp_lst ra
      obtain ⟨p2, ws, rfl, h2, r2⟩ := rp_lst rb
      refine .inr (.inr ⟨p, p2, vs, ws, rfl, rfl, ex_l e h1, ex_l e h2, ?_, new_lst e (r1.append r2) q⟩)
      rw [r1.length, r2.length]
      exact big_line (by assumption)
    · cases h
  · cases h
def catSD : D → D → Option D
  | .val (.str x), .val (.str y) => if x.length + y.length ≤ big then some (.str (x ++ y)) else none
  | _, _ => none
theorem r2_catS : R2M K rCatS catSD := fun x y a b d G H e ra rb h Q q => by
  unfold catSD at h
  split at h
  · split at h
    · cases h
      cases rp_val ra
      cases rp_val rb
      exact ⟨_, _, rfl, rfl, big_line (by assumption), q _ G H (Wd.refl e) (.val _)⟩
    · cases h
  · cases h
def ixLD : D → D → Option D
  | .lst ds, .val (.int i) => atI ds i
  | _, _ => none
theorem r2_ixL : R2M K (rIxL K) ixLD := fun x y a b d G H e ra rb h Q q => by
  unfold ixLD at h
  split at h
  · obtain ⟨p, vs, rfl, h1, r1⟩ := rp_lst ra
    cases rp_val rb
    obtain ⟨v, h2, h3⟩ := at_rps r1 h
    exact ⟨p, vs, _, v, rfl, rfl, ex_l e h1, h2, q v G H (Wd.refl e) h3⟩
  · cases h
def slKD : D → Option Int → Option Int → Option D
  | .lst ds, lo, hi => some (.lst (cutD ds lo hi))
  | .val (.str z), lo, hi => if z.length ≤ big then some (.str (cutS z lo hi)) else none
  | _, _, _ => none
theorem rs_slK : RSM K (rSlK K) slKD := fun x a lo hi d G H e ra h Q q => by
  unfold slKD at h
  split at h
  · cases h
    obtain ⟨p, vs, rfl, h1, r1⟩ := rp_lst ra
    exact .inl ⟨p, vs, rfl, ex_l e h1, new_lst e (cut_rps lo hi r1) q⟩
  · split at h
    · cases h
      cases rp_val ra
      exact .inr ⟨_, rfl, big_line (by assumption), q _ G H (Wd.refl e) (.val _)⟩
    · cases h
  · cases h
def lenKD : List D → Option D
  | [.val (.str z)] => if z.length ≤ big then some (.int z.length) else none
  | [.lst ds] => some (.int ds.length)
  | _ => none
theorem rc_lenK : RCM K (rLenK K) lenKD := fun xs as d G H e r h Q q => by
  unfold lenKD at h
  split at h
  · split at h
    · cases h
      obtain ⟨v, rfl, r0⟩ := rps_one r
      cases rp_val r0
      exact .inl ⟨_, rfl, big_line (by assumption), q _ G H (Wd.refl e) (.val _)⟩
    · cases h
  · cases h
    obtain ⟨v, rfl, r0⟩ := rps_one r
    obtain ⟨p, vs, rfl, h1, r1⟩ := rp_lst r0
    refine .inr ⟨p, vs, rfl, ex_l e h1, ?_⟩
    rw [r1.length]
    exact q _ G H (Wd.refl e) (.val _)
  · cases h
def listKD : List D → Option D
  | [.lst ds] => some (.lst ds)
  | _ => none
theorem rc_listK : RCM K (fun xs H Q => ∃ p ys, xs = [.ref p] ∧ SqL K H p ys ∧ ∀ l, H l = none → Q (.ref l) (upd H l (.lst ys))) listKD := fun xs as d G H e r h Q q => by
  unfold listKD at h
  split at h
  · cases h
    obtain ⟨v, rfl, r0⟩ := rps_one r
    obtain ⟨p, vs, rfl, h1, r1⟩ := rp_lst r0
    exact ⟨p, vs, rfl, ex_l e h1, new_lst e r1 q⟩
  · cases h
def neKD (a b : D) : Option D := (deepD a b).map fun k => .bl (!k)
theorem r2_neK : R2M K (rNeD K) neKD := fun x y a b d G H e ra rb h Q q => by
  obtain ⟨k, hk, rfl⟩ := Option.map_eq_some_iff.mp h
  unfold deepD at hk
  obtain ⟨p, e1, hk⟩ := Option.bind_eq_some_iff.mp hk
  obtain ⟨p2, e2, hk⟩ := Option.bind_eq_some_iff.mp hk
  split at hk
  · rename_i hs
    cases hk
    obtain ⟨s1, s2⟩ := Bool.and_eq_true_iff.mp hs
    exact ⟨p, p2, dp_ex e _ (dp_of a ra e1), dp_ex e _ (dp_of b rb e2), s1, s2, q _ G H (Wd.refl e) (.val _)⟩
  · cases hk
theorem rm_joinK : RMM K "str" (rJoinK K) joinD := fun x xs a as d h => by
  unfold joinD at h
  split at h
  · obtain ⟨ys, h1, h⟩ := Option.bind_eq_some_iff.mp h
    split at h
    · rename_i hb
      cases h
      refine ⟨fun G H e ra => by cases rp_val ra; exact rfl, fun G H e ra r Q q => ?_⟩
      cases rp_val ra
      obtain ⟨v, rfl, r0⟩ := rps_one r
      obtain ⟨p, vs, rfl, h2, r1⟩ := rp_lst r0
      rw [strsD_strs h1] at r1
      rw [Rps.of_vals r1] at h2
      exact ⟨_, p, ys, rfl, rfl, ex_l e h2, hb, q _ G H (Wd.refl e) (.val _)⟩
    · cases h
  · cases h
def repD : D → List D → Option D
  | .val (.str a), [.val (.str b), .val (.str c), .val (.int 1)] => if a.length + c.length ≤ big then some (.str (Txt.replace1 a b c)) else none
  | _, _ => none
theorem rm_rep : RMM K "str" rRep1 repD := fun x xs a as d h => by
  unfold repD at h
  split at h
  · split at h
    · rename_i hb
      cases h
      refine ⟨fun G H e ra => by cases rp_val ra; exact rfl, fun G H e ra r Q q => ?_⟩
      cases rp_val ra
      cases r with
      | cons r1 r =>
        obtain ⟨v, v2, rfl, r2, r3⟩ := rps_two r
        cases rp_val r1
        cases rp_val r2
        cases rp_val r3
        exact ⟨_, _, _, rfl, rfl, hb, q _ G H (Wd.refl e) (.val _)⟩
    · cases h
  · cases h
theorem new_frz {Q : VK} {d : List D} {vs : List V} {G H : Hp} (e : Ex G H) (r : Rps K G vs d) (q : ∀ v G' H', Wd G H G' H' → Rp K G' v (.lst d) → Q v H') : ∀ p o, H p = none → Q (.ref p) (upd H p (.frz o (.lst vs))) := fun p o hp => by
  have w := Wd.new (o := .frz o (.lst vs)) e hp
  exact q _ _ _ w (.lst (.inl (.inr ⟨o, upd_same⟩)) (r.mono w.g))
theorem rm_splitZ : RMM K "str" rSplitZ splitD := fun x xs a as d h => by
  unfold splitD at h
  split at h
  · split at h
    · rename_i hb
      cases h
      refine ⟨fun G H e ra => by cases rp_val ra; exact rfl, fun G H e ra r Q q => ?_⟩
      cases rp_val ra
      obtain ⟨v, rfl, r0⟩ := rps_one r
      cases rp_val r0
      refine ⟨_, _, rfl, rfl, hb.1, big_line hb.2, new_frz e ?_ q⟩
      exact rps_strs _
    · cases h
  · cases h
theorem em_lstZ (h : AM K tl ml) : EM K (tLstZ tl) (mLst (few ml)) := fun ρ d e G0 H0 G H σ c Q q => by
  obtain ⟨ds, e1, rfl⟩ := Option.map_eq_some_iff.mp e
  obtain ⟨e1, hz⟩ := few_le e1
  refine h ρ ds e1 G0 H0 G H σ c _ fun vs G1 H1 w r => ⟨by rw [r.length]; exact hz, ?_⟩
  exact new_frz w.s r fun v G2 H2 w2 r2 => q v G2 H2 (w.trans w2) r2
def mItemsK (m : ME) : MA := fun ρ => (m ρ).bind fun d => match d with
  | .lst ds => some ds
  | .tup ds => some ds
  | _ => none
theorem im_seqK (h : EM K te me) : IM K (iSeqK K te) (mItemsK me) := fun ρ ds e G0 H0 G H σ c R q => by
  obtain ⟨d, e1, e⟩ := Option.bind_eq_some_iff.mp e
  have h1 := h ρ d e1
  split at e
  · cases e
    exact .inl (ev_list h1 G0 H0 G H σ c R q)
  · cases e
    exact .inr (ev_tup h1 G0 H0 G H σ c R q)
  · cases e
def mItemsL (m : ME) : MA := fun ρ => (m ρ).bind fun d => match d with
  | .lst ds => some ds
  | _ => none
theorem im_listK (h : EM K te me) : IM K (iList K te) (mItemsL me) := fun ρ ds e G0 H0 G H σ c R q => by
  obtain ⟨d, e1, e⟩ := Option.bind_eq_some_iff.mp e
  have h1 := h ρ d e1
  split at e
  · cases e
    exact ev_list h1 G0 H0 G H σ c R q
  · cases e
theorem em_lcZ {wi : TI} {mi : MA} {g : TG} {js vs : List Nat} {f : D → DEnv → Option DEnv} (hi : IM K wi mi) (hg : GM K g js f) (hj : ∀ j ∈ js, j ∈ vs) (he : EM K te me) : EM K (tLcZ wi g te vs) (mLst (mLc mi f mYes me vs)) := fun ρ d0 e0 G0 H0 G H σ c Q q => by
  obtain ⟨ys, e, rfl⟩ := Option.map_eq_some_iff.mp e0
  obtain ⟨ds, e1, e⟩ := Option.bind_eq_some_iff.mp e
  split at e
  case isFalse => cases e
  rename_i hz
  refine hi ρ ds e1 G0 H0 G H σ c _ fun J G1 H1 w ⟨Gs, Y, wk, hgs, hy⟩ Dl hD => ?_
  have c1 := c.mono w
  refine ⟨fun i m H' => m = ds.length - i ∧ i ≤ ds.length ∧ ∃ G' accV accD rest od, Wd G1 H1 G' H' ∧ G' Dl = none ∧ H' Dl = some (.frz od (.lst accV)) ∧ Rps K G' accV accD ∧ lcL f mYes me (wipeD ρ vs) (ds.drop i) = some rest ∧ accD ++ rest = ys ∧ accD.length ≤ i,
    ⟨ds.length, fun od => ⟨rfl, Nat.zero_le _, G1, [], [], ys, od, Wd.newH c1.sub hD, fresh_back c1.sub hD, upd_same, .nil, e, rfl, Nat.zero_le _⟩⟩, ?_⟩
  rintro i m H' ⟨rfl, hil, G', accV, accD, rest, od, w', gD, hDl, ra, hr, hyy, hai⟩
  have gs : Gs H' := hgs H' (w'.g.trans w'.s)
  by_cases hlt : i < ds.length
  · refine .inr ⟨wk.goes i H' hlt gs, fun H'' => i + 1 ≤ ds.length ∧ ∃ G' accV accD rest od, Wd G1 H1 G' H'' ∧ G' Dl = none ∧ H'' Dl = some (.frz od (.lst accV)) ∧ Rps K G' accV accD ∧ lcL f mYes me (wipeD ρ vs) (ds.drop (i + 1)) = some rest ∧ accD ++ rest = ys ∧ accD.length ≤ i + 1,
      fun H'' z => ⟨ds.length - (i + 1), by omega, rfl, z.1, z.2⟩, fun x H2 yy => ?_⟩
    obtain ⟨d, G2, hd, w2, rx⟩ := hy i G' H' x H2 hlt w'.g w'.s (wk.yields i H' x H2 hlt gs yy)
    have hdrop : ds.drop i = d :: ds.drop (i + 1) := by
      obtain ⟨h1, h2⟩ := List.getElem?_eq_some_iff.mp hd
      rw [List.drop_eq_getElem_cons h1, h2]
    rw [hdrop] at hr
    obtain ⟨ρ1, hs, hr⟩ := Option.bind_eq_some_iff.mp hr
    obtain ⟨b, hbt, hr⟩ := Option.bind_eq_some_iff.mp hr
    cases hbt
    rw [if_pos rfl] at hr
    obtain ⟨yv, hel, hr⟩ := Option.bind_eq_some_iff.mp hr
    obtain ⟨rest', hr2, rfl⟩ := Option.map_eq_some_iff.mp hr
    have w12 := w'.trans w2
    refine hg d _ ρ1 hs G0 H0 G2 H2 _ x ((c1.mono w12).wipe vs) rx _ fun σ2 c2 hw => ⟨(hw vs hj).trans (wipe_wipe vs vs fun _ h => h), ?_⟩
    have g2 : G2 Dl = none := w2.c Dl (by rw [hDl]; exact Option.some_ne_none _) gD
    have d2 : H2 Dl = some (.frz od (.lst accV)) := w2.h Dl _ hDl
    refine he ρ1 yv hel G0 H0 G2 H2 σ2 c2 _ fun v G4 H4 w4 rv => ?_
    have d4 := w4.h Dl _ d2
    have g4 : G4 Dl = none := w4.c Dl (by rw [d2]; exact Option.some_ne_none _) g2
    have w14 := w12.trans w4
    refine ⟨accV, od, d4, ?_, fun od' => ⟨hlt, G4, accV ++ [v], accD ++ [yv], rest', od', ⟨w14.g, Ex.mut w14.h hD, fun a u z => ?_, w14.c⟩, g4, upd_same, (ra.mono (w2.g.trans w4.g)).append (.cons rv .nil), hr2, by rw [List.append_assoc]; exact hyy, ?_⟩⟩
    · rw [ra.length, sizeLine_eq]
      omega
    · have na : a ≠ Dl := fun y => by rw [y, g4] at z; cases z
      rw [upd_ne na]
      exact w4.s a u z
    · rw [List.length_append]
      simp only [List.length_cons, List.length_nil]
      omega
  · have ei : i = ds.length := by omega
    subst ei
    refine .inl ⟨wk.stops H' gs, ?_⟩
    rw [List.drop_length] at hr
    cases hr
    rw [List.append_nil] at hyy
    subst hyy
    have wl := w.trans w'
    refine q (.ref Dl) (upd G' Dl (.frz od (.lst accV))) H' ⟨wl.g.trans (Ex.new gD), wl.h, fun a u z => ?_, fun a ha ga => ?_⟩ (.lst (.inl (.inr ⟨od, upd_same⟩)) (ra.mono (Ex.new gD)))
    · by_cases y : a = Dl
      · subst y
        rw [upd_same] at z
        rw [← z]
        exact hDl
      · rw [upd_ne y] at z
        exact wl.s a u z
    · by_cases y : a = Dl
      · subst y
        exact absurd (fresh_back w.h hD) ha
      · rw [upd_ne y]
        exact wl.c a ha ga
end
end DD

set_option Elab.async false
set_option linter.all false
set_option maxRecDepth 100000
set_option maxHeartbeats 4000000
/-! DD16: K- and N-judgements paired with their meaning. -/
namespace DD
open PySem PySem.Spec PyProof.Rows L2 Evl

structure JKE (X : Cx) (ν : List Str) (e : Expr) (t : TE) (m : ME) : Prop where
  p : PEK X ν e t
  m : EM X.K t m
structure JKT (X : Cx) (ν : List Str) (e : Expr) (t : TT) (m : MT) : Prop where
  p : PTK X ν e t
  m : TM X.K t m
structure JKW (X : Cx) (ν : List Str) (e : Expr) (t : TT) (m : MT) : Prop where
  p : PWK X ν e t
  m : TM X.K t m
structure JKA (X : Cx) (ν : List Str) (es : List Expr) (t : TA) (m : MA) : Prop where
  p : PAK X ν es t
  m : AM X.K t m
structure JKO (X : Cx) (ν : List Str) (e : Option Expr) (t : TO) (m : MO) : Prop where
  p : POK X ν e t
  m : OM X.K t m
structure JKI (X : Cx) (ν : List Str) (tg it : Expr) (w : TI) (m : MA) : Prop where
  p : PIK X ν tg it w
  m : IM X.K w m
structure JKG (X : Cx) (ν : List Str) (tg : Expr) (g : TG) (js : List Nat) (f : D → DEnv → Option DEnv) : Prop where
  p : PGK X ν tg g
  m : GM X.K g js f
structure JKS (X : Cx) (ν : List Str) (W : WX) (s : Stmt) (t : TS) (m : MS) : Prop where
  p : PSK X ν s t
  m : SM X.K W t m
structure JKB (X : Cx) (ν : List Str) (W : WX) (s : List Stmt) (t : TS) (m : MS) : Prop where
  p : PSsK X ν s t
  m : SM X.K W t m
structure JNE (X : Cx) (n0 : Nat) (τ : List Fact) (e : Expr) (t : TE) (m : ME) : Prop where
  p : PEN X n0 τ e t
  m : EM X.K t m
structure JNA (X : Cx) (n0 : Nat) (τ : List Fact) (es : List Expr) (t : TA) (m : MA) : Prop where
  p : PAN X n0 τ es t
  m : AM X.K t m
structure JNR (X : Cx) (n0 : Nat) (τ : List Fact) (es : List Expr) (t : TA) (m : MA) : Prop where
  p : PRN X n0 τ es t
  m : AM X.K t m
structure JZA (X : Cx) (n0 : Nat) (τ : List Fact) (es : List Expr) (P : Nat → Nat → Prop) (t : TA) (m : MA) : Prop where
  p : PAZ X n0 τ es P t
  m : AM X.K t m
structure JNI (X : Cx) (n0 : Nat) (τ : List Fact) (tg it : Expr) (w : TI) (m : MA) : Prop where
  p : PIN X n0 τ tg it w
  m : IM X.K w m
structure JNS (X : Cx) (n0 : Nat) (τ : List Fact) (W : WX) (s : Stmt) (t : TS) (m : MS) : Prop where
  p : PSN X n0 τ s t
  m : SM X.K W t m
structure JNB (X : Cx) (n0 : Nat) (τ : List Fact) (W : WX) (s : List Stmt) (t : TS) (m : MS) : Prop where
  p : PSsN X n0 τ s t
  m : SM X.K W t m
structure JZS (X : Cx) (n0 : Nat) (τ τ' : List Fact) (W : WX) (s : Stmt) (t : TS) (m : MS) : Prop where
  p : PSZ X n0 τ τ' s t
  m : SM X.K W t m
structure JPB (X : Cx) (n0 : Nat) (τ : List Fact) (W : WX) (s : List Stmt) (t : TS) (m : MS) : Prop where
  p : PBN X n0 τ s t
  m : SM X.K W t m
structure JEG (X : Cx) (ν : List Str) (e : Expr) (t : TE) (m : ME) : Prop where
  p : PEG X ν e t
  m : EM X.K t m
structure JEH (X : Cx) (e : Expr) (t : TE) (m : ME) : Prop where
  p : PEH X e t
  m : EM X.K t m
structure JGB (X : Cx) (W : WX) (s : List Stmt) (t : TS) (m : MS) : Prop where
  p : PBG X s t
  m : SM X.K W t m

section
variable {X : Cx} {ν : List Str} {W : WX} {a b c e o : Expr} {es : List Expr} {ta tb tc te : TE} {ma mb mc me : ME} {tt tu : TT} {mt mu : MT} {tl : TA} {ml : MA} {pos p2 p3 : Pos} {k j : Nat} {x : Str}
theorem k_var (i : Nat) {x : Str} {pos : Pos} (hN : X.N[i]? = some x := by rfl) (hv : Vis X.env.scope x := by first | exact Or.inl rfl | exact Or.inr (Or.inl rfl) | exact Or.inr (Or.inr rfl)) (hd : (x == ("__debug__" : Str)) = false := by decide)
    (hcd : (x == ("__classdict__" : Str)) = false := by decide) : JKE X ν (.Name x pos) (tVar i) (mVar i) := ⟨pek_var hN hv hd hcd, em_var⟩
theorem k_int {i : Int} {j : Nat} : JKE X ν (.Constant (.int i) j pos) (tC (.int i)) (mC (.int i)) := ⟨pek_int, em_c⟩
theorem k_str {z : Str} {j : Nat} : JKE X ν (.Constant (.str z) j pos) (tC (.str z)) (mC (.str z)) := ⟨pek_str, em_c⟩
theorem k_bl {z : Bool} {j : Nat} : JKE X ν (.Constant (.bool z) j pos) (tC (.bl z)) (mC (.bl z)) := ⟨pek_bl, em_c⟩
theorem k_non {j : Nat} : JKE X ν (.Constant .none j pos) (tC .non) (mC .non) := ⟨pek_non, em_c⟩
theorem k_glob {v : V} (h : ∃ u, X.mg x = some u ∧ RelV v u) (hg : Gl X x := by rfl) (hd : (x == ("__debug__" : Str)) = false := by decide) : JKE X ν (.Name x pos) (tC v) (mC v) := by
  obtain ⟨u, h1, h2⟩ := h
  exact ⟨pek_glob hg h1 h2 hd, em_c⟩
/-- a built-in type by its name, as a value -/
theorem k_ty {T : String} (hm : X.mg x = none) (hv : bootBuiltins x = some (.type T) := by decide +kernel) (hg : Gl X x := by rfl) (hn : x ≠ "__name__" := by decide) (hd : (x == ("__debug__" : Str)) = false := by decide) : JKE X ν (.Name x pos) (tC (.ty T)) (mC (.ty T)) :=
  ⟨pek_bltn hg hm hv rfl hn hd, em_c⟩
theorem k_add (ha : JKE X ν a ta ma) (hb : JKE X ν b tb mb) {K : PySem.W.Frag} (hK : X.K = K := by rfl) : JKE X ν (.BinOp a .Add b pos) (tOp (rAddK K) ta tb) (mOp addK ma mb) := by
  subst hK
  exact ⟨pek_op opk_add ha.p hb.p, em_op r2_addK ha.m hb.m⟩
theorem k_sub (ha : JKE X ν a ta ma) (hb : JKE X ν b tb mb) : JKE X ν (.BinOp a .Sub b pos) (tOp (rI0 fun i j => .int (i - j)) ta tb) (mOp subD ma mb) := ⟨pek_op opk_sub ha.p hb.p, em_op r2_sub ha.m hb.m⟩
theorem k_mul (ha : JKE X ν a ta ma) (hb : JKE X ν b tb mb) : JKE X ν (.BinOp a .Mult b pos) (tOp (rI CMul fun i j => .int (i * j)) ta tb) (mOp mulD ma mb) := ⟨pek_op opk_mul ha.p hb.p, em_op r2_mul ha.m hb.m⟩
theorem k_mod (ha : JKE X ν a ta ma) (hb : JKE X ν b tb mb) : JKE X ν (.BinOp a .Mod b pos) (tOp (rI (fun _ j => 0 < j) fun i j => .int (i % j)) ta tb) (mOp modD ma mb) := ⟨pek_op opk_mod ha.p hb.p, em_op r2_mod ha.m hb.m⟩
theorem k_neg (ha : JKE X ν a ta ma) : JKE X ν (.UnaryOp .USub a pos) (tUn (rU fun i => .int (-i)) ta) (mUn negD ma) := by
  refine ⟨⟨fun pins s σ H Q I h => UnaryOp_ (thn (ha.p.run pins s σ H _ I h) fun v s1 ⟨k1, x, H1, f1, I1, r1, q1⟩ => ?_)⟩, em_un r1_neg ha.m⟩
  obtain ⟨i, rfl, q⟩ := q1
  obtain ⟨t, rfl⟩ := r1
  exact neg_int (EK.from k1 f1 (ev_tok I1 (x := .int (-i)) ⟨_, rfl⟩ q).k)
theorem kt_ne (hr : Room j X.A) (ha : JKE X ν a ta ma) (hb : JKE X ν b tb mb) (hm : behindInMarks .NotEq b = false := by first | exact nomark _ | rfl) {K : PySem.W.Frag} (hK : X.K = K := by rfl) : JKT X ν (.Compare a [.NotEq] [b] pos) (tTest (tOp (rNeD K) ta tb)) (mTest (mOp neKD ma mb)) := by
  subst hK
  exact ⟨ptk_cmp (opk_ne hr.units) ha.p hb.p hm, tm_test (em_op r2_neK ha.m hb.m)⟩
theorem k_ix (ha : JKE X ν a ta ma) (hb : JKE X ν b tb mb) (hs : PlainIx b := by exact fun _ _ => rfl) {K : PySem.W.Frag} (hK : X.K = K := by rfl) : JKE X ν (.Subscript a b pos) (tOp (rIxL K) ta tb) (mOp ixLD ma mb) := by
  subst hK
  exact ⟨pek_ix ixk_list ha.p hb.p hs, em_op r2_ixL ha.m hb.m⟩
theorem ko_none : JKO X ν none tNoPart mNoPart := ⟨pok_none, om_none⟩
theorem ko_some (h : JKE X ν e te me) : JKO X ν (some e) (tPart te) (mPart me) := ⟨pok_some h.p, om_some h.m⟩
theorem k_sl {lo hi : Option Expr} {to th : TO} {mo mh : MO} (he : JKE X ν e te me) (hl : JKO X ν lo to mo) (hu : JKO X ν hi th mh) {K : PySem.W.Frag} (hK : X.K = K := by rfl) : JKE X ν (.Subscript e (.Slice lo hi none p2) pos) (tSl (rSlK K) te to th) (mSl slKD me mo mh) := by
  subst hK
  exact ⟨pek_sl slk_any he.p hl.p hu.p, em_sl rs_slK he.m hl.m hu.m⟩
theorem k_rev {q1 q2 q3 : Pos} (he : JKE X ν e te me) {K : PySem.W.Frag} (hK : X.K = K := by rfl) : JKE X ν (.Subscript e (.Slice none none (some (.UnaryOp .USub (.Constant (.int 1) k q1) q2)) q3) pos) (tRevL K te) (mRev me) := by
  subst hK
  exact ⟨pek_rev he.p, em_rev he.m⟩
theorem ka_nil : JKA X ν [] tNil mNil := ⟨pak_nil, am_nil⟩
theorem ka_cons (h : JKE X ν e te me) (hr : JKA X ν es tl ml) (hs : starEach (e :: es) X.env = (false, eval e X.env) :: starEach es X.env := by rfl) : JKA X ν (e :: es) (tCons te tl) (mCons me ml) := ⟨pak_cons h.p hr.p hs, am_cons h.m hr.m⟩
theorem k_lst (h : JKA X ν es tl ml) : JKE X ν (.List es pos) (tLst tl) (mLst (few ml)) := ⟨pek_lst h.p, em_fresh (fm_lst h.m)⟩
theorem k_len (hm : X.mg "len" = none) (ha : JKE X ν e te me) (hg : Gl X "len" := by rfl) (he : starEach [e] X.env = (false, eval e X.env) :: starEach [] X.env := by rfl) (hpl : (backTo pos (starEach [] X.env)).any (·.1) = false := by rfl) {K : PySem.W.Frag} (hK : X.K = K := by rfl) :
    JKE X ν (.Call (.Name "len" p2) [e] [] pos) (tCB (rLenK K) (tCons te tNil)) (mCall lenKD (mCons me mNil)) := by
  subst hK
  exact ⟨pek_callB callk_len hg hm (by decide +kernel) (pak_cons ha.p pak_nil he) (by decide) (by decide) he hpl, em_cb rc_lenK (am_cons ha.m am_nil)⟩
theorem k_list (hm : X.mg "list" = none) (ha : JKE X ν e te me) (hg : Gl X "list" := by rfl) (he : starEach [e] X.env = (false, eval e X.env) :: starEach [] X.env := by rfl) (hpl : (backTo pos (starEach [] X.env)).any (·.1) = false := by rfl) {K : PySem.W.Frag} (hK : X.K = K := by rfl) :
    JKE X ν (.Call (.Name "list" p2) [e] [] pos) (tCB (fun xs H Q => ∃ p ys, xs = [.ref p] ∧ SqL K H p ys ∧ ∀ l, H l = none → Q (.ref l) (upd H l (.lst ys))) (tCons te tNil)) (mCall listKD (mCons me mNil)) := by
  subst hK
  exact ⟨pek_callTy callk_list hg hm (by decide +kernel) (pak_cons ha.p pak_nil he) (by decide) (by decide) he hpl, em_cb rc_listK (am_cons ha.m am_nil)⟩
/-- isinstance(x, T) of a value that is a tuple of data, T tuple -/
def isTupD : List D → Option D
  | [.tup _, .val (.ty "tuple")] => some (.bl true)
  | _ => none
theorem rc_isTup {K : PySem.W.Frag} : RCM K (rIsi K) isTupD := fun xs as d G H e r h Q q => by
  unfold isTupD at h
  split at h
  · cases h
    obtain ⟨v, v2, rfl, r0, r1⟩ := rps_two r
    cases rp_val r1
    obtain ⟨p, vs, rfl, h1, r2⟩ := rp_tup r0
    refine ⟨.ref p, .ty "tuple", .type "tuple", .type "tuple", true, rfl, .ty _, ?_, kit_ty (a := "tuple") (b := "tuple") (by decide +kernel), q _ G H (Wd.refl e) (.val _)⟩
    rcases ex_t e h1 with h2 | h2
    · rcases h2 with h2 | ⟨o, h2⟩
      · exact .base (.tup h2)
      · exact .fTuple h2
    · obtain ⟨o, its, n, h3, h4, _⟩ := h2
      exact .kTuple h3 h4
  · cases h
theorem k_isTup (hm : X.mg "isinstance" = none) (ha : JKA X ν (e :: es) tl ml) (hg : Gl X "isinstance" := by rfl) (he : starEach (e :: es) X.env = (false, eval e X.env) :: starEach es X.env := by rfl) (hpl : (backTo pos (starEach es X.env)).any (·.1) = false := by rfl) {K : PySem.W.Frag} (hK : X.K = K := by rfl) :
    JKE X ν (.Call (.Name "isinstance" p2) (e :: es) [] pos) (tCB (rIsi K) tl) (mCall isTupD ml) := by
  subst hK
  exact ⟨pek_callB callk_isi hg hm (by decide +kernel) ha.p (by decide) (by decide) he hpl, em_cb rc_isTup ha.m⟩
theorem k_join {apos : Pos} (ho : JKE X ν o ta ma) (ha : JKA X ν (e :: es) tl ml) (hbase : attributeBase o "join" X.env (eval o X.env) = eval o X.env := by rfl)
    (hfew : ((backTo pos (starEach (e :: es) X.env)).all (fun x => !x.1) && (backToKw pos (keywordEach [] X.env)).all (fun x => x.1.isSome)
      && decide ((e :: es).length + ([] : List Keyword).length + (if ([] : List Keyword).isEmpty then 0 else 1) < 30)) = true := by rfl)
    (hline : (apos.endLine == pos.line) = true := by rfl) (hs : starEach (e :: es) X.env = (false, eval e X.env) :: starEach es X.env := by rfl) (hplain : (backTo pos (starEach es X.env)).any (·.1) = false := by rfl) {K : PySem.W.Frag} (hK : X.K = K := by rfl) :
    JKE X ν (.Call (.Attribute o "join" apos) (e :: es) [] pos) (tBM K "str" (rJoinK K) ta tl) (mMeth joinD ma ml) := by
  subst hK
  exact ⟨pek_bm PySem.F.plainAttrs_str PySem.F.slot_str_join PySem.F.type_str_join mtk_join ho.p ha.p hbase hfew hline hs hplain, em_bm rm_joinK ho.m ha.m⟩
theorem em_call {n : Nat} {F : List D → Option D} (ar : ∀ ds d, F ds = some d → ds.length = n) (h : AM X.K tl ml) : EM X.K (tCall (spD X.K n F) [] E0 tl) (mCall F ml) := fun ρ d q G0 H0 G H σ c Q z => by
  obtain ⟨ds, e1, q⟩ := Option.bind_eq_some_iff.mp q
  refine h ρ ds e1 G0 H0 G H σ c _ fun vs G1 H1 w1 r1 => ⟨G1, ds, d, ?_, w1.s, by rw [List.append_nil]; exact r1, q, fun v G2 H2 w2 r2 => z v G2 H2 (w1.trans w2) r2⟩
  rw [List.append_nil, r1.length]
  exact ar ds d q
theorem k_call {f : Addr} {k j n : Nat} {F : List D → Option D} (T : FnD X.prog X.w X.K X.mg X.base f x k n F) (hr : Room j X.A) (ha : JKA X ν (e :: es) tl ml) (hk : k ≤ j := by decide) (hg : Gl X x := by rfl) (hdb : (x == ("__debug__" : Str)) = false := by decide)
    (he : starEach (e :: es) X.env = (false, eval e X.env) :: starEach es X.env := by rfl) (hpl : (backTo pos (starEach es X.env)).any (·.1) = false := by rfl) {K : PySem.W.Frag} (hK : X.K = K := by rfl) :
    JKE X ν (.Call (.Name x p2) (e :: es) [] pos) (tCall (spD K n F) [] E0 tl) (mCall F ml) := by
  subst hK
  obtain ⟨fd, ps, hb, ok⟩ := T.ok
  exact ⟨pek_call ok (hr.mono hk) hg T.g T.kp hb .nil pass0 ha.p hdb he hpl, em_call T.ar ha.m⟩
theorem kt_val (h : JKE X ν e te me) (he : ∀ whole, isTrue e X.env whole = (do let v ← whole; standAt e.pos; holding [v] (truthy v)) := by intro _; rfl) : JKT X ν e (tB te) (mTest me) := ⟨ptk_val h.p he, tm_B h.m⟩
theorem kw_or1 (h : JKT X ν a tt mt) : JKW X ν (.BoolOp .Or [a] pos) tt mt := ⟨pwk_or1 h.p, h.m⟩
theorem kw_or {rest : List Expr} (h : JKT X ν a tt mt) (h2 : JKW X ν (.BoolOp .Or (b :: rest) pos) tu mu) : JKW X ν (.BoolOp .Or (a :: b :: rest) pos) (tOr tt tu) (mOr mt mu) := ⟨pwk_or h.p h2.p, tm_or h.m h2.m⟩
theorem kt_w (h : JKW X ν e tt mt) : JKT X ν e tt mt := ⟨h.p.pt, h.m⟩
theorem kt_not (h : JKT X ν a tt mt) : JKT X ν (.UnaryOp .Not a pos) (tNot tt) (mNot mt) := ⟨ptk_not h.p, tm_not h.m⟩
variable {t u : TS} {m n : MS} {st : Stmt} {sts sts2 : List Stmt}
theorem kb_nil : JKB X ν W [] tNext mNext := ⟨pssk_nil, sm_next⟩
theorem kb_cons (h : JKS X ν W st t m) (h2 : JKB X ν W sts u n) : JKB X ν W (st :: sts) (tSeq t u) (mSeq m n) := ⟨pssk_cons h.p h2.p, sm_seq h.m h2.m⟩
theorem kb_one (h : JKS X ν W st t m) : JKB X ν W [st] t m := ⟨pssk_one h.p, h.m⟩
theorem ks_ret (he : JKE X ν e te me) : JKS X ν W (.Return (some e) pos) (tRet te) (mRet me) := ⟨psk_ret he.p, sm_ret he.m⟩
theorem ks_if (hc : JKT X ν c tt mt) (h1 : JKB X ν W sts t m) (h2 : JKB X ν W sts2 u n) : JKS X ν W (.If c sts sts2 pos) (tIfS tt t u) (mIfS mt m n) := ⟨psk_if hc.p h1.p h2.p, sm_if hc.m h1.m h2.m⟩
theorem kg_name (i : Nat) (hN : X.N.Nodup) (hν : x ∉ ν := by decide) (hi : X.N[i]? = some x := by rfl) (hx : X.env.scope.names.lookup x = some .local := by rfl) : JKG X ν (.Name x pos) (gName i) [i] (gN i) := ⟨pgk_name hN hi hx hν, gm_name⟩
theorem ki_list {tg : Expr} (he : JKE X ν e te me) {K : PySem.W.Frag} (hK : X.K = K := by rfl) : JKI X ν tg e (iList K te) (mItemsL me) := by
  subst hK
  exact ⟨pik_list he.p, im_listK he.m⟩
theorem ki_seq {tg : Expr} (he : JKE X ν e te me) {K : PySem.W.Frag} (hK : X.K = K := by rfl) : JKI X ν tg e (iSeqK K te) (mItemsK me) := by
  subst hK
  exact ⟨pik_seq he.p, im_seqK he.m⟩
theorem im_range1 {ta : TA} (ha : AM X.K ta ml) : IM X.K (iRng1 ta) (mRange1 ml) := fun ρ ds q G0 H0 G H σ c R z => by
  obtain ⟨es, e1, q⟩ := Option.bind_eq_some_iff.mp q
  split at q
  · split at q
    · rename_i n hn
      cases q
      refine ha ρ _ e1 G0 H0 G H σ c _ fun vs G' H' w r => ?_
      obtain ⟨v, rfl, r0⟩ := rps_one r
      cases rp_val r0
      exact ⟨_, rfl, hn.1, hn.2, z _ G' H' w walk_rangeD⟩
    · cases q
  · cases q
theorem ki_range1 {tg : Expr} (hm : X.mg "range" = none) (ha : JKA X ν [a] tl ml) (hg : Gl X "range" := by rfl) (hs : starEach [a] X.env = [(false, eval a X.env)] := by rfl) : JKI X ν tg (.Call (.Name "range" p2) [a] [] pos) (iRng1 tl) (mRange1 ml) := ⟨pik_range1 hg hm ha.p hs, im_range1 ha.m⟩
theorem ks_for {tg it : Expr} {wi : TI} {mi : MA} {g : TG} {js : List Nat} {f : D → DEnv → Option DEnv} (hp : PassesOwn (model X.prog X.w) X.A X.env X.xe) (hi : JKI X ν tg it wi mi) (hg : JKG X ν tg g js f) (hb : JKB X ν W sts t m) (hc : X.calm = true := by rfl)
    (hs : ∀ x, foldedSetIterable it X.env x = pure x := by intro _; rfl) : JKS X ν W (.For tg it sts [] pos) (tFor wi g t) (mFor mi f m) := ⟨psk_for hp hc hi.p hg.p hb.p hs, sm_for hi.m hg.m hb.m⟩
end
/-! ### N -/
section
variable {X : Cx} {n0 : Nat} {τ τ' : List Fact} {W : WX} {a b c e o : Expr} {es : List Expr} {ta tb tc te : TE} {ma mb mc me : ME} {tt tu : TT} {mt mu : MT} {tl : TA} {ml : MA} {pos p2 p3 q0 q1 apos cpos : Pos} {k j : Nat} {x y : Str} {t u : TS} {m n : MS} {st : Stmt} {sts sts2 : List Stmt} {P P' : Nat → Nat → Prop}
theorem n_of (h : JKE X (names τ) e te me) : JNE X n0 τ e te me := ⟨pen_of h.p, h.m⟩
theorem na_nil : JNA X n0 τ [] tNil mNil := ⟨pan_nil, am_nil⟩
theorem na_cons (mo : Mono τ) (h : JNE X n0 τ e te me) (hr : JNA X n0 τ es tl ml) (hs : starEach (e :: es) X.env = (false, eval e X.env) :: starEach es X.env := by rfl) : JNA X n0 τ (e :: es) (tCons te tl) (mCons me ml) := ⟨pan_cons mo h.p hr.p hs, am_cons h.m hr.m⟩
theorem n_lst (h : JNA X n0 τ es tl ml) : JNE X n0 τ (.List es pos) (tLst tl) (mLst (few ml)) := ⟨pen_lst h.p, em_fresh (fm_lst h.m)⟩
theorem n_add (mo : Mono τ) (ha : JNE X n0 τ a ta ma) (hb : JNE X n0 τ b tb mb) {K : PySem.W.Frag} (hK : X.K = K := by rfl) : JNE X n0 τ (.BinOp a .Add b pos) (tOp (rAddK K) ta tb) (mOp addK ma mb) := by
  subst hK
  exact ⟨pen_op mo opk_add ha.p hb.p, em_op r2_addK ha.m hb.m⟩
theorem nr_const {y z : Str} {i : Int} {j0 j1 j2 : Nat} {q0 q1 q2 : Pos} (h1 : 1 ≤ n0) :
    JNR X n0 τ [.Constant (.str y) j0 q0, .Constant (.str z) j1 q1, .Constant (.int i) j2 q2] (tCons (tC (.str y)) (tCons (tC (.str z)) (tCons (tC (.int i)) tNil))) (mCons (mC (.str y)) (mCons (mC (.str z)) (mCons (mC (.int i)) mNil))) :=
  ⟨prn_const h1, am_cons em_c (am_cons em_c (am_cons em_c am_nil))⟩
theorem nr_names (i k : Nat) {v : Int} {j : Nat} {q0 q1 q2 : Pos} (hx : ⟨x, false, P⟩ ∈ τ) (hy : ⟨y, false, P'⟩ ∈ τ) (hd : ∀ n t u, P n t → P' n u → t ≠ 0 ∧ u ≠ 0 ∧ t ≠ u)
    (hN : X.N[i]? = some x := by rfl) (hk : X.env.scope.names.lookup x = some .local := by rfl) (hN2 : X.N[k]? = some y := by rfl) (hk2 : X.env.scope.names.lookup y = some .local := by rfl) (hd1 : (x == ("__debug__" : Str)) = false := by decide) (hd2 : (y == ("__debug__" : Str)) = false := by decide) :
    JNR X n0 τ [.Name x q0, .Name y q1, .Constant (.int v) j q2] (tCons (tVar i) (tCons (tVar k) (tCons (tC (.int v)) tNil))) (mCons (mVar i) (mCons (mVar k) (mCons (mC (.int v)) mNil))) :=
  ⟨prn_names hx hy hd hN hk hN2 hk2 hd1 hd2, am_cons em_var (am_cons em_var (am_cons em_c am_nil))⟩
theorem nr_addR (i : Nat) {z : Str} {v : Int} {j j1 : Nat} {q0 q1 q2 q3 q4 : Pos} (hx : ⟨x, false, P⟩ ∈ τ) (hP : ∀ n t, P n t → t ≠ 0 ∧ t < n) (hz : z.length ≠ 0 := by decide)
    (hN : X.N[i]? = some x := by rfl) (hk : X.env.scope.names.lookup x = some .local := by rfl) (hd1 : (x == ("__debug__" : Str)) = false := by decide) :
    JNR X n0 τ [.Name x q0, .BinOp (.Name x q1) .Add (.Constant (.str z) j1 q3) q4, .Constant (.int v) j q2] (tCons (tVar i) (tCons (tOp rCatS (tVar i) (tC (.str z))) (tCons (tC (.int v)) tNil))) (mCons (mVar i) (mCons (mOp catSD (mVar i) (mC (.str z))) (mCons (mC (.int v)) mNil))) :=
  ⟨prn_addR hx hP hz hN hk hd1, am_cons em_var (am_cons (em_op r2_catS em_var em_c) (am_cons em_c am_nil))⟩
theorem nr_addL (i : Nat) {z : Str} {v : Int} {j j1 : Nat} {q0 q1 q2 q3 q4 : Pos} (hx : ⟨x, false, P⟩ ∈ τ) (hP : ∀ n t, P n t → t ≠ 0 ∧ t < n) (hz : z.length ≠ 0 := by decide)
    (hN : X.N[i]? = some x := by rfl) (hk : X.env.scope.names.lookup x = some .local := by rfl) (hd1 : (x == ("__debug__" : Str)) = false := by decide) :
    JNR X n0 τ [.Name x q0, .BinOp (.Constant (.str z) j1 q3) .Add (.Name x q1) q4, .Constant (.int v) j q2] (tCons (tVar i) (tCons (tOp rCatS (tC (.str z)) (tVar i)) (tCons (tC (.int v)) tNil))) (mCons (mVar i) (mCons (mOp catSD (mC (.str z)) (mVar i)) (mCons (mC (.int v)) mNil))) :=
  ⟨prn_addL hx hP hz hN hk hd1, am_cons em_var (am_cons (em_op r2_catS em_c em_var) (am_cons em_c am_nil))⟩
theorem n_rep (hnb : PySem.W.nsIn X.K cStatics sharingNotToldKey = some none) (mo : Mono τ) (ho : JNE X n0 τ o ta ma) (ha : JNR X n0 τ (e :: es) tl ml)
    (hbase : attributeBase o "replace" X.env (eval o X.env) = eval o X.env := by rfl)
    (hfew : ((backTo cpos (starEach (e :: es) X.env)).all (fun x => !x.1) && (backToKw cpos (keywordEach [] X.env)).all (fun x => x.1.isSome)
      && decide ((e :: es).length + ([] : List Keyword).length + (if ([] : List Keyword).isEmpty then 0 else 1) < 30)) = true := by rfl)
    (hline : (apos.endLine == cpos.line) = true := by rfl) (hs : starEach (e :: es) X.env = (false, eval e X.env) :: starEach es X.env := by rfl) (hplain : (backTo cpos (starEach es X.env)).any (·.1) = false := by rfl) {K : PySem.W.Frag} (hK : X.K = K := by rfl) :
    JNE X n0 τ (.Call (.Attribute o "replace" apos) (e :: es) [] cpos) (tBM K "str" rRep1 ta tl) (mMeth repD ma ml) := by
  subst hK
  exact ⟨pen_rep hnb mo ho.p ha.p hbase hfew hline hs hplain, em_bm rm_rep ho.m ha.m⟩
/-! blocks -/
theorem pb_of (h : JB X W sts t m) : JPB X n0 τ W sts t m := ⟨pbn_of h.p, h.m⟩
theorem pb_z (h : JZS X n0 τ τ' W st t m) (h2 : JPB X n0 τ' W sts u n) : JPB X n0 τ W (st :: sts) (tSeq t u) (mSeq m n) := ⟨pbn_z h.p h2.p, sm_seq h.m h2.m⟩
theorem pb_n (mo : Mono τ) (h : JNS X n0 τ W st t m) (h2 : JPB X n0 τ W sts u n) : JPB X n0 τ W (st :: sts) (tSeq t u) (mSeq m n) := ⟨pbn_n mo h.p h2.p, sm_seq h.m h2.m⟩
theorem pb_p (h : JS X W st t m) (h2 : JPB X n0 [] W sts u n) : JPB X n0 [] W (st :: sts) (tSeq t u) (mSeq m n) := ⟨pbn_p h.p h2.p, sm_seq h.m h2.m⟩
theorem pb_frz (i : Nat) (h : JPB X n0 τ W sts t m) : JPB X n0 τ W sts t (fun ρ => m (frz i ρ)) := ⟨h.p, sm_frz h.m⟩
theorem ns_of (h : JKS X (names τ) W st t m) : JNS X n0 τ W st t m := ⟨psn_of h.p, h.m⟩
theorem zs_set (i : Nat) {pos' : Pos} (mo : Mono τ) (hN : X.N.Nodup) (he : JNE X n0 τ e te me) (hν : x ∉ names τ := by decide) (hi : X.N[i]? = some x := by rfl) (hk : X.env.scope.names.lookup x = some .local := by rfl) (hs : swapsWith e (some (.Name x pos')) pos.line X.env = pure false := by rfl) :
    JZS X n0 τ τ W (.Assign [.Name x pos'] e pos) (tAsg te (gName i)) (mAsg i me) := ⟨z_set mo hN he.p hν hi hk hs, sm_asg he.m⟩
/-- .. a list that the def goes on to change -/
theorem zs_setO (i : Nat) {pos' : Pos} (mo : Mono τ) (hN : X.N.Nodup) (he : JNA X n0 τ es tl ml) (hν : x ∉ names τ := by decide) (hi : X.N[i]? = some x := by rfl) (hk : X.env.scope.names.lookup x = some .local := by rfl) (hs : swapsWith (.List es cpos) (some (.Name x pos')) pos.line X.env = pure false := by rfl) :
    JZS X n0 τ τ W (.Assign [.Name x pos'] (.List es cpos) pos) (tAsg (tLst tl) (gName i)) (mAsgO i (few ml)) := ⟨z_set mo hN (pen_lst he.p) hν hi hk hs, sm_asgO (fm_lst he.m)⟩
theorem zs_split (i k : Nat) {z : Str} {j : Nat} {q0 q1 pos' : Pos} (mo : Mono τ) (mP : ∀ n n' t, n ≤ n' → P' n t → P' n' t) (hy : ⟨y, false, P⟩ ∈ τ) (hP : ∀ n t, n0 ≤ n → P n t → P' n t) (hF : ∀ n n' t, n0 ≤ n → n ≤ t → t < n' → P' n' t) (hN : X.N.Nodup) (hν : x ∉ names τ := by decide)
    (hi : X.N[i]? = some x := by rfl) (hk : X.env.scope.names.lookup x = some .local := by rfl) (hi2 : X.N[k]? = some y := by rfl) (hk2 : X.env.scope.names.lookup y = some .local := by rfl) (hd2 : (y == ("__debug__" : Str)) = false := by decide)
    (hs : swapsWith (.Call (.Attribute (.Name y q0) "split" apos) [.Constant (.str z) j q1] [] cpos) (some (.Name x pos')) pos.line X.env = pure false := by rfl)
    (hbase : attributeBase (.Name y q0) "split" X.env (eval (.Name y q0) X.env) = eval (.Name y q0) X.env := by rfl)
    (hfew : ((backTo cpos (starEach [.Constant (.str z) j q1] X.env)).all (fun x => !x.1) && (backToKw cpos (keywordEach [] X.env)).all (fun x => x.1.isSome)
      && decide (([Expr.Constant (.str z) j q1] : List Expr).length + ([] : List Keyword).length + (if ([] : List Keyword).isEmpty then 0 else 1) < 30)) = true := by rfl)
    (hline : (apos.endLine == cpos.line) = true := by rfl) {K : PySem.W.Frag} (hK : X.K = K := by rfl) :
    JZS X n0 τ (⟨x, true, P'⟩ :: τ) W (.Assign [.Name x pos'] (.Call (.Attribute (.Name y q0) "split" apos) [.Constant (.str z) j q1] [] cpos) pos) (tAsg (tBM K "str" rSplitZ (tVar k) (tCons (tC (.str z)) tNil)) (gName i)) (mAsg i (mMeth splitD (mVar k) (mCons (mC (.str z)) mNil))) := by
  subst hK
  exact ⟨z_split mo mP hy hP hF hN hν hi hk hi2 hk2 hd2 hs hbase hfew hline, sm_asg (em_bm rm_splitZ em_var (am_cons em_c am_nil))⟩
theorem zs_ix (i k : Nat) {q0 pos' : Pos} (mo : Mono τ) (mP : ∀ n n' t, n ≤ n' → P' n t → P' n' t) (hy : ⟨y, true, P⟩ ∈ τ) (hP : ∀ n t, n0 ≤ n → P n t → P' n t) (hN : X.N.Nodup) (he : JKE X (names τ) e te me) (hν : x ∉ names τ := by decide) (hsx : PlainIx e := by exact fun _ _ => rfl)
    (hi : X.N[i]? = some x := by rfl) (hk : X.env.scope.names.lookup x = some .local := by rfl) (hi2 : X.N[k]? = some y := by rfl) (hk2 : X.env.scope.names.lookup y = some .local := by rfl) (hd2 : (y == ("__debug__" : Str)) = false := by decide)
    (hs : swapsWith (.Subscript (.Name y q0) e cpos) (some (.Name x pos')) pos.line X.env = pure false := by rfl) {K : PySem.W.Frag} (hK : X.K = K := by rfl) :
    JZS X n0 τ (⟨x, false, P'⟩ :: τ) W (.Assign [.Name x pos'] (.Subscript (.Name y q0) e cpos) pos) (tAsg (tOp (rIxL K) (tVar k) te) (gName i)) (mAsg i (mOp ixLD (mVar k) me)) := by
  subst hK
  exact ⟨z_ix mo mP hy hP hN hν he.p hsx hi hk hi2 hk2 hd2 hs, sm_asg (em_op r2_ixL em_var he.m)⟩
theorem za_nil : JZA X n0 τ [] P tNil mNil := ⟨paz_nil, am_nil⟩
theorem za_str {z : Str} {j : Nat} {q0 : Pos} (mo : Mono τ) (mP : ∀ n n' t, n ≤ n' → P n t → P n' t) (hF : ∀ n t, n0 ≤ t → t < n → P n t) (hr : JZA X n0 τ es P tl ml) (hs : starEach (.Constant (.str z) j q0 :: es) X.env = (false, eval (.Constant (.str z) j q0) X.env) :: starEach es X.env := by rfl) :
    JZA X n0 τ (.Constant (.str z) j q0 :: es) P (tCons (tC (.str z)) tl) (mCons (mC (.str z)) ml) := ⟨paz_str mo mP hF hr.p hs, am_cons em_c hr.m⟩
theorem za_name (i : Nat) {q0 : Pos} (mo : Mono τ) (mP : ∀ n n' t, n ≤ n' → P n t → P n' t) (hx : ⟨x, false, P'⟩ ∈ τ) (hP : ∀ n t, n0 ≤ n → P' n t → P n t) (hr : JZA X n0 τ es P tl ml) (hN : X.N[i]? = some x := by rfl) (hk : X.env.scope.names.lookup x = some .local := by rfl) (hd : (x == ("__debug__" : Str)) = false := by decide)
    (hs : starEach (.Name x q0 :: es) X.env = (false, eval (.Name x q0) X.env) :: starEach es X.env := by rfl) : JZA X n0 τ (.Name x q0 :: es) P (tCons (tVar i) tl) (mCons (mVar i) ml) := ⟨paz_name mo mP hx hP hr.p hN hk hd hs, am_cons em_var hr.m⟩
theorem nb_of (h : JKB X (names τ) W sts t m) : JNB X n0 τ W sts t m := ⟨pssn_of h.p, h.m⟩
theorem nb_one (h : JNS X n0 τ W st t m) : JNB X n0 τ W [st] t m := ⟨pssn_one h.p, h.m⟩
theorem ni_of {tg it : Expr} {wi : TI} {mi : MA} (h : JKI X (names τ) tg it wi mi) : JNI X n0 τ tg it wi mi := ⟨pin_of h.p, h.m⟩
theorem ni_list {tg : Expr} (h : JNE X n0 τ e te me) {K : PySem.W.Frag} (hK : X.K = K := by rfl) : JNI X n0 τ tg e (iList K te) (mItemsL me) := by
  subst hK
  exact ⟨pin_list h.p, im_listK h.m⟩
theorem ns_for {tg it : Expr} {wi : TI} {mi : MA} {g : TG} {js : List Nat} {f : D → DEnv → Option DEnv} (mo : Mono τ) (hp : PassesOwn (model X.prog X.w) X.A X.env X.xe) (hi : JNI X n0 τ tg it wi mi) (hg : JKG X (names τ) tg g js f) (hb : JNB X n0 τ W sts t m) (hc : X.calm = true := by rfl)
    (hs : ∀ x, foldedSetIterable it X.env x = pure x := by intro _; rfl) : JNS X n0 τ W (.For tg it sts [] pos) (tFor wi g t) (mFor mi f m) := ⟨psn_for mo hp hc hi.p hg.p hb.p hs, sm_for hi.m hg.m hb.m⟩
theorem ns_forZ (i : Nat) {q0 : Pos} (mo : Mono τ) (mP : ∀ n n' t, n ≤ n' → P n t → P n' t) (hp : PassesOwn (model X.prog X.w) X.A X.env X.xe) (ha : JZA X n0 τ es P tl ml) (hN : X.N.Nodup) (hb : JNB X n0 (⟨x, false, P⟩ :: τ) W sts t m) (hν : x ∉ names τ := by decide) (hc : X.calm = true := by rfl)
    (hix : X.N[i]? = some x := by rfl) (hk : X.env.scope.names.lookup x = some .local := by rfl) (hs : ∀ x, foldedSetIterable (.List es cpos) X.env x = pure x := by intro _; rfl) {K : PySem.W.Frag} (hK : X.K = K := by rfl) :
    JNS X n0 τ W (.For (.Name x q0) (.List es cpos) sts [] pos) (tFor (iList K (tLstZ tl)) (gName i) t) (mFor (mItemsL (mLst (few ml))) (gN i) m) := by
  subst hK
  exact ⟨psn_forZ mo mP hp hc ha.p hN hν hb.p hix hk hs, sm_for (im_listK (em_lstZ ha.m)) gm_name hb.m⟩
theorem zs_par (i j : Nat) {x y : Str} {a b : Expr} {px py pt pos : Pos} {kt k2 : Nat} {pt2 : Pos} (h0 : 1 ≤ n0) (hN : X.N.Nodup) (ha : JEH X a ta ma) (hb : JEH X b tb mb) (hw : swappedStores [.Tuple [.Name x px, .Name y py] kt pt] (.Tuple [a, b] k2 pt2) X.env = pure (some [x, y]) := by rfl)
    (hi : X.N[i]? = some x := by rfl) (hj : X.N[j]? = some y := by rfl) (hij : i ≠ j := by decide) (hxy : x ≠ y := by decide) (hx : X.env.scope.names.lookup x = some .local := by rfl) (hy : X.env.scope.names.lookup y = some .local := by rfl) (hc : X.calm = true := by rfl)
    (hs : swapsWithSole [.Tuple [.Name x px, .Name y py] kt pt] (.Tuple [a, b] k2 pt2) pos.line X.env = pure false := by rfl)
    (hst : starEach [a, b] X.env = [(false, eval a X.env), (false, eval b X.env)] := by rfl) :
    JZS X n0 [] [⟨x, false, Pn⟩, ⟨y, false, Pn⟩] W (.Assign [.Tuple [.Name x px, .Name y py] kt pt] (.Tuple [a, b] k2 pt2) pos) (tPar i j (tCons ta (tCons tb tNil))) (mPar i j (mCons ma (mCons mb mNil))) :=
  ⟨z_par h0 hN ha.p hb.p hw hi hj hij hxy hx hy hc hs hst, sm_par (am_cons ha.m (am_cons hb.m am_nil))⟩
theorem pb_pieces (i : Nat) {xs : List Str} {pos' : Pos}
    (ha : ∀ B, 1 ≤ B → JZA X B (xs.map fun y => ⟨y, false, fun _ t => 1 ≤ t ∧ t < B⟩) es (fun n t => B ≤ t ∧ t < n) tl ml) (h0 : 1 ≤ n0) (hN : X.N.Nodup)
    (rest : ∀ B T, 1 ≤ B → B ≤ T → JPB X T (⟨x, true, fun _ t => B ≤ t ∧ t < T⟩ :: xs.map fun y => ⟨y, false, fun _ t => 1 ≤ t ∧ t < B⟩) W sts u n) (hν : x ∉ xs := by decide)
    (hi : X.N[i]? = some x := by rfl) (hk : X.env.scope.names.lookup x = some .local := by rfl) (hs : swapsWith (.List es cpos) (some (.Name x pos')) pos.line X.env = pure false := by rfl) :
    JPB X n0 (xs.map fun y => ⟨y, false, Pn⟩) W (.Assign [.Name x pos'] (.List es cpos) pos :: sts) (tSeq (tAsg (tLstZ tl) (gName i)) u) (mSeq (mAsg i (mLst (few ml))) n) :=
  ⟨pbn_pieces (fun B h => (ha B h).p) h0 hN hν (fun B T h1 h2 => (rest B T h1 h2).p) hi hk hs, sm_seq (sm_asg (em_lstZ (ha 1 (Nat.le_refl _)).m)) (rest 1 1 (Nat.le_refl _) (Nat.le_refl _)).m⟩
theorem n_texts {f : Addr} {F : List D → Option D} {k k' i0 i2 : Nat} {p0 p1 p2 : Str} {P0 P2 : Nat → Nat → Prop} {pp : Pos} {y0 y2 : Str} (mo : Mono τ) (T : FnZ X.prog X.w X.K X.mg X.base f x k [p0, p1, p2] n0 [⟨p0, false, P0⟩, ⟨p2, true, P2⟩] F) (hr : Room k' X.A) (hx : ⟨y0, false, P0⟩ ∈ τ) (hz : ⟨y2, true, P2⟩ ∈ τ) (hb : JKE X (names τ) b tb mb) (hkk : k ≤ k' := by decide)
    (hg : Gl X x := by rfl) (hi0 : X.N[i0]? = some y0 := by rfl) (hk0 : X.env.scope.names.lookup y0 = some .local := by rfl) (hi2 : X.N[i2]? = some y2 := by rfl) (hk2 : X.env.scope.names.lookup y2 = some .local := by rfl)
    (hdb : (x == ("__debug__" : Str)) = false := by decide) (hd0 : (y0 == ("__debug__" : Str)) = false := by decide) (hd2 : (y2 == ("__debug__" : Str)) = false := by decide)
    (h0 : ∀ u0 u1 u2 : Value, argMap [p0, p1, p2] [u0, u1, u2] p0 = some u0 := by intro _ _ _; rfl) (h2 : ∀ u0 u1 u2 : Value, argMap [p0, p1, p2] [u0, u1, u2] p2 = some u2 := by intro _ _ _; rfl)
    (he : starEach [.Name y0 q0, b, .Name y2 q1] X.env = (false, eval (.Name y0 q0) X.env) :: starEach [b, .Name y2 q1] X.env := by rfl)
    (he2 : starEach [b, .Name y2 q1] X.env = [(false, eval b X.env), (false, eval (.Name y2 q1) X.env)] := by rfl) (hpl : (backTo pos (starEach [b, .Name y2 q1] X.env)).any (·.1) = false := by rfl) {K : PySem.W.Frag} (hK : X.K = K := by rfl) :
    JNE X n0 τ (.Call (.Name x pp) [.Name y0 q0, b, .Name y2 q1] [] pos) (tCall (spD K 3 F) [] E0 (tCons (tVar i0) (tCons tb (tCons (tVar i2) tNil)))) (mCall F (mCons (mVar i0) (mCons mb (mCons (mVar i2) mNil)))) := by
  subst hK
  exact ⟨pen_texts mo T (hr.mono hkk) hx hz hb.p hg hi0 hk0 hi2 hk2 hdb hd0 hd2 h0 h2 he he2 hpl, em_call (fun ds d h => T.ar ds d h) (am_cons em_var (am_cons hb.m (am_cons em_var am_nil)))⟩
/-! good values -/
variable {ν : List Str}
theorem g_str {z : Str} {j : Nat} : JEG X ν (.Constant (.str z) j pos) (tC (.str z)) (mC (.str z)) := ⟨peg_str, em_c⟩
theorem g_strI (hm : X.mg "str" = none) (ha : JKE X ν e te me) (hg : Gl X "str" := by rfl) (he : starEach [e] X.env = [(false, eval e X.env)] := by rfl) : JEG X ν (.Call (.Name "str" p2) [e] [] pos) (tCB (fun xs H Q => ∃ i, xs = [.int i] ∧ i.natAbs.log2 < 1920 ∧ Q (.str (toString i)) H) (tCons te tNil)) (mCall strD (mCons me mNil)) :=
  ⟨peg_strI hg hm ha.p he, em_cb rc_str (am_cons ha.m am_nil)⟩
theorem g_call {f : Addr} {k j n : Nat} {F : List D → Option D} (T : FnG X.prog X.w X.K X.mg X.base f x k n F) (hr : Room j X.A) (ha : JKA X ν (e :: es) tl ml) (hk : k ≤ j := by decide) (hg : Gl X x := by rfl) (hdb : (x == ("__debug__" : Str)) = false := by decide)
    (he : starEach (e :: es) X.env = (false, eval e X.env) :: starEach es X.env := by rfl) (hpl : (backTo pos (starEach es X.env)).any (·.1) = false := by rfl) {K : PySem.W.Frag} (hK : X.K = K := by rfl) :
    JEG X ν (.Call (.Name x p2) (e :: es) [] pos) (tCall (spD K n F) [] E0 tl) (mCall F ml) := by
  subst hK
  exact ⟨peg_call T (hr.mono hk) hg ha.p hdb he hpl, em_call T.ar ha.m⟩
theorem h_of (h : JEG X ν e te me) : JEH X e te me := ⟨h.p.h, h.m⟩
theorem h_joinLc {z : Str} {j : Nat} {q0 : Pos} {elt tg iter : Expr} {scope : Scope} {own : List (Str × Nat)} {lpos : Pos} {wi : TI} {mi : MA} {g : TG} {js : List Nat} {f : D → DEnv → Option DEnv} (hN : X.N.Nodup) (hi : JKI X [] tg iter wi mi) (ok : BlkOk X.N X.env.scope scope own)
    (hg : ∀ (s : Shared) (H : Hp) (C : Addr) (cl : List (Str × Addr)) (fp : List Addr), JKG (X.blk s H scope (compEnvC scope cl C X.env) fp) [] tg g js f)
    (he : ∀ (s : Shared) (H : Hp) (C : Addr) (cl : List (Str × Addr)) (fp : List Addr), JEG (X.blk s H scope (compEnvC scope cl C X.env) fp) [] elt te me) (hj : ∀ j ∈ js, j ∈ own.map (·.2) := by decide) (hc : X.calm = true := by rfl) (hs : ∀ x, foldedSetIterable iter X.env x = pure x := by intro _; rfl)
    (hbase : attributeBase (.Constant (.str z) j q0) "join" X.env (eval (.Constant (.str z) j q0) X.env) = eval (.Constant (.str z) j q0) X.env := by rfl)
    (hfew : ((backTo cpos (starEach [.ListComp elt [⟨tg, iter, [], 0⟩] scope lpos] X.env)).all (fun x => !x.1) && (backToKw cpos (keywordEach [] X.env)).all (fun x => x.1.isSome)
      && decide (([Expr.ListComp elt [⟨tg, iter, [], 0⟩] scope lpos] : List Expr).length + ([] : List Keyword).length + (if ([] : List Keyword).isEmpty then 0 else 1) < 30)) = true := by rfl)
    (hline : (apos.endLine == cpos.line) = true := by rfl) (hst : starEach [.ListComp elt [⟨tg, iter, [], 0⟩] scope lpos] X.env = [(false, eval (.ListComp elt [⟨tg, iter, [], 0⟩] scope lpos) X.env)] := by rfl) {K : PySem.W.Frag} (hK : X.K = K := by rfl) :
    JEH X (.Call (.Attribute (.Constant (.str z) j q0) "join" apos) [.ListComp elt [⟨tg, iter, [], 0⟩] scope lpos] [] cpos) (tBM K "str" (rJoinK K) (tC (.str z)) (tCons (tLcZ wi g te (own.map (·.2))) tNil)) (mMeth joinD (mC (.str z)) (mCons (mLst (mLc mi f mYes me (own.map (·.2)))) mNil)) := by
  subst hK
  exact ⟨⟨peg_joinLc hc hN hi.p ok (fun s H C cl fp => (hg s H C cl fp).p) (fun s H C cl fp => (he s H C cl fp).p) hs hbase hfew hline hst⟩, em_bm rm_joinK em_c (am_cons (em_lcZ hi.m (hg X.s_0 X.H_0 0 [] []).m hj (he X.s_0 X.H_0 0 [] []).m) am_nil)⟩
theorem gb_ret (h : JEH X e te me) : JGB X W [.Return (some e) pos] (tRet te) (mRet me) := ⟨pbg_ret h.p, sm_ret h.m⟩
theorem gb_if (hc : JT X c tt mt) (ha : JGB X W sts t m) (hb : JGB X W sts2 u n) : JGB X W (.If c sts [] pos :: sts2) (tSeq (tIfS tt t tNext) u) (mSeq (mIfS mt m mNext) n) := ⟨pbg_if hc.p ha.p hb.p, sm_seq (sm_if hc.m ha.m sm_next) hb.m⟩
end
end DD

set_option Elab.async false
set_option linter.all false
set_option maxRecDepth 100000
set_option maxHeartbeats 4000000
/-! DD17: sorted(xs), xs tuples of ints of any lengths. -/
namespace DD
open PySem PySem.Spec PyProof.Rows PySem.W L2 Evl
/-- v is a tuple of these numbers -/
def IsTi (h : Heap) (v : Value) (ns : List Int) : Prop := ∃ a o items n, v = .ref a ∧ h.get? a = some o ∧ o.cls = .type "tuple" ∧ o.data = .seq items n ∧ IntsAre items.toList ns
section
variable {prog : Program} {w : World} {A : Around} {E : Value → Shared → Prop} {s : Shared} {M : Model}
theorem IsTi.keeps {h h' : Heap} {v : Value} {ns : List Int} (x : IsTi h v ns) (k : ∀ b o, h.get? b = some o → o.cls = .type "tuple" → h'.get? b = some o) : IsTi h' v ns := by
  obtain ⟨a, o, items, n, e, g, c, d, i⟩ := x
  exact ⟨a, o, items, n, e, k _ _ g c, c, d, i⟩
def firstI (h : Heap) (v : Value) : Option Value := match v with
  | .ref a => match h.get? a with
    | some o => match o.data with
      | .seq xs _ => xs[0]?
      | _ => none
    | none => none
  | _ => none
theorem firsts_ti : ∀ (vs : List Value) {k : Value → List Int} {Q : List (Option Value) → Shared → Prop}, (∀ v ∈ vs, IsTi s.heap v (k v)) → Q (vs.map (firstI s.heap)) s → wpAny M A (vs.mapM firstOfTuple') Q E s
  | [], _, _, _, h => by rw [List.mapM_nil]; exact wpAny_pure h
  | v :: vs, k, Q, t, h => by
    have tv := t v List.mem_cons_self
    obtain ⟨a, o, items, n, rfl, g, c, d, i⟩ := id tv
    rw [List.mapM_cons]
    refine wpAny_bind ?_
    rw [kas_first_eq]
    refine wpAny_bind (Looks.here (show Looks M s.heap (typeOf (.ref a)) o.cls from (Looks.ld g).andThen .now) ?_)
    rw [c, if_neg (by first | decide | simp)]
    refine wpAny_bind (listItems_at g d (wpAny_pure ?_))
    have e1 : firstI s.heap (.ref a) = items[0]? := by
      unfold firstI
      simp only [g, d]
    rw [List.map_cons, e1] at h
    exact wpAny_bind (firsts_ti vs (k := k) (Q := fun bs s' => wpAny M A (pure (items[0]? :: bs)) Q E s') (fun u hu => t u (List.mem_cons_of_mem _ hu)) (wpAny_pure h))
theorem types_ti : ∀ (vs : List Value) {k : Value → List Int} {Q : List Value → Shared → Prop}, (∀ v ∈ vs, IsTi s.heap v (k v)) → Q (vs.map fun _ => Value.type "tuple") s → wpAny M A (vs.mapM typeOf) Q E s := fun vs k Q t h =>
  kas_mapM (r := Value.type "tuple") vs (fun v hv Q' hq => by
    obtain ⟨a, o, items, n, rfl, g, c, d, i⟩ := t v hv
    refine Looks.here (show Looks M s.heap (typeOf (.ref a)) o.cls from (Looks.ld g).andThen .now) ?_
    rw [c]
    exact hq) h
theorem lex_any {b : Bool} {Q : Bool → Shared → Prop} : ∀ {xs ys : List Value} {ns ms : List Int} (i : Nat), IntsAre xs ns → IntsAre ys ms → ∀ {fin : Bool}, (fin = decide (ns.length < ms.length)) → Q (HT.lexLt ns ms) s → KatLex prog w A b fin Q (xs.zip ys) i s
  | [], ys, _, ms, i, .nil, hy, fin, hf, h => by
    cases hy with
    | nil =>
      rw [HT.lexLt_nil_nil] at h
      rw [List.zip_nil_left]
      refine kat_nil ?_
      rw [hf]
      simpa using h
    | cons q u hy =>
      rw [HT.lexLt_nil_cons] at h
      rw [List.zip_nil_left]
      refine kat_nil ?_
      rw [hf]
      simpa using h
  | _ :: xs, ys, _, ms, i, .cons p t hx, hy, fin, hf, h => by
    cases hy with
    | nil =>
      rw [HT.lexLt_cons_nil] at h
      rw [List.zip_nil_right]
      refine kat_nil ?_
      rw [hf]
      simpa using h
    | cons q u hy =>
      rw [HT.lexLt_cons] at h
      rw [List.zip_cons_cons]
      refine kat_cons (SeqAt.EqAt.int_int p t q u prog w _ _ ?_)
      refine kat_go (fun e1 => ?_) (fun e1 => ?_)
      · have ex : p = q := by simpa using e1
        rw [if_pos ex] at h
        exact kat_yes (lex_any (i + 1) hx hy (by rw [hf]; simp) h)
      · have ex : ¬ p = q := by simpa using e1
        rw [if_neg ex] at h
        exact kat_no (TS.oneLt_ints _ h)
theorem ti_tuples {vs : List Value} {k : Value → List Int} (hv : ∀ v ∈ vs, IsTi s.heap v (k v)) : SrtO.Cmp prog w A s (tuples' true) (fun p => p.1 ∈ vs) (SrtO.lt2 fun v u => HT.lexLt (k v) (k u)) := by
  intro p q hp hq
  obtain ⟨a, o, xs, n, e, g, c, d, i⟩ := hv p.1 hp
  obtain ⟨a2, o2, ys, n2, e2, g2, c2, d2, i2⟩ := hv q.1 hq
  show wpAny (model prog w) A (keyLt' (tuples' true) p.1 q.1) (fun r s' => s' = s ∧ r = HT.lexLt (k p.1) (k q.1)) (fun _ _ => False) s
  generalize k p.1 = ns at i ⊢
  generalize k q.1 = ms at i2 ⊢
  rw [e, e2]
  have l1 : xs.size = ns.length := by rw [← IntsAre.length i, Array.length_toList]
  have l2 : ys.size = ms.length := by rw [← IntsAre.length i2, Array.length_toList]
  exact kat_lt g d g2 d2 (lex_any 0 i i2 (by rw [l1, l2]) ⟨rfl, rfl⟩)
theorem ti_general {vs : List Value} {k : Value → List Int} (hu : A.units < cLine) (hv : ∀ v ∈ vs, IsTi s.heap v (k v)) : SrtO.Cmp prog w A s general' (fun p => p.1 ∈ vs) (SrtO.lt2 fun v u => HT.lexLt (k v) (k u)) := by
  intro p q hp hq
  obtain ⟨a, o, xs, n, e, g, c, d, i⟩ := hv p.1 hp
  obtain ⟨a2, o2, ys, n2, e2, g2, c2, d2, i2⟩ := hv q.1 hq
  show wpAny (model prog w) A (keyLt' general' p.1 q.1) (fun r s' => s' = s ∧ r = HT.lexLt (k p.1) (k q.1)) (fun _ _ => False) s
  generalize k p.1 = ns at i ⊢
  generalize k q.1 = ms at i2 ⊢
  rw [e, e2]
  show wpAny (model prog w) A (oneLt' false (.ref a) (.ref a2)) _ _ s
  exact kat_one _ _ (HT.lt_tupInts ⟨o, g, c, n, d⟩ ⟨o2, g2, c2, n2, d2⟩ i i2 hu (show PySem.W.BoolBack (fun r s' => s' = s ∧ r = HT.lexLt ns ms) (.bool (HT.lexLt ns ms)) s from ⟨rfl, rfl⟩))
theorem ti_one {vs : List Value} {k : Value → List Int} (hu : A.units < cLine) (hv : ∀ v ∈ vs, IsTi s.heap v (k v)) : SrtO.Cmp prog w A s oneType' (fun p => p.1 ∈ vs) (SrtO.lt2 fun v u => HT.lexLt (k v) (k u)) := by
  intro p q hp hq
  obtain ⟨a, o, xs, n, e, g, c, d, i⟩ := hv p.1 hp
  obtain ⟨a2, o2, ys, n2, e2, g2, c2, d2, i2⟩ := hv q.1 hq
  show wpAny (model prog w) A (keyLt' oneType' p.1 q.1) (fun r s' => s' = s ∧ r = HT.lexLt (k p.1) (k q.1)) (fun _ _ => False) s
  generalize k p.1 = ns at i ⊢
  generalize k q.1 = ms at i2 ⊢
  rw [e, e2]
  obtain ⟨cls, dd, dt, sl⟩ := o
  obtain ⟨cls2, dd2, dt2, sl2⟩ := o2
  simp only at c d c2 d2
  subst c d c2 d2
  rw [keyLt'_oneType, oneLt'_eq]
  simp only [if_true]
  refine wpAny_bind (wpAny_cRoomFor hu ?_)
  refine wpAny_bind (wpAny_callSpecialIfBound?_slot ⟨_, g, rfl⟩ F.slot_tuple_lt (call_meets F.slot_tuple_lt ⟨_, g, rfl⟩ F.entry_tuple_lt (F.args_tuple_lt_2 _ _) (HT.tuple_lt_ints a a2 xs ys n n2 dd dd2 sl sl2 ns ms i i2) ⟨g, g2, ?_⟩))
  exact wpAny_truthy_bool ⟨rfl, rfl⟩
theorem ti_sortable {a : Addr} {vs : List Value} {k : Value → List Int} (h2 : 2 ≤ vs.length) (hu : A.units < cLine) (hv : ∀ v ∈ vs, IsTi s.heap v (k v)) (ha : ∀ o, s.heap.get? a = some o → o.cls ≠ .type "tuple") : SrtO.SortableO prog w A s a vs fun v u => HT.lexLt (k v) (k u) := by
  intro h' keep
  have hv' : ∀ v ∈ vs, IsTi h' v (k v) := fun v hm => (hv v hm).keeps fun b o e c => keep b o (fun z => by subst z; exact ha o e c) e
  cases c1 : (vs.map (firstI h')).toArray.all (·.isSome) with
  | true =>
    refine ⟨tuples' true, fun Q E hq => ?_, ti_tuples (s := { s with heap := h' }) hv'⟩
    rw [kat_kind_eq, List.mapM_toArray, map_eq_pure_bind]
    refine wpAny_bind (wpAny_bind (firsts_ti (s := { s with heap := h' }) vs (k := k) hv' (wpAny_pure ?_)))
    rw [if_pos c1]
    refine wpAny_bind (wpAny_rule ?_)
    have hfm : ((vs.map (firstI h')).toArray.filterMap id) = (vs.filterMap (firstI h')).toArray := by simp [List.filterMap_map, Function.comp_def]
    have hint : ∀ f ∈ vs.filterMap (firstI h'), ∃ x t, f = Value.int x t := fun f hf => by
      obtain ⟨v, hm, e⟩ := List.mem_filterMap.mp hf
      obtain ⟨a, o, items, n, rfl, g, c, d, i⟩ := hv' v hm
      have e1 : firstI h' (.ref a) = items[0]? := by
        unfold firstI
        simp only [g, d]
      rw [e1] at e
      exact i.all f (by simpa using Array.mem_of_getElem? e)
    obtain ⟨f1, fr, ef⟩ : ∃ f1 fr, vs.filterMap (firstI h') = f1 :: fr := by
      match vs, h2, c1 with
      | v :: r, _, c1 =>
        simp only [List.all_toArray, List.map_cons, List.all_cons, Bool.and_eq_true] at c1
        obtain ⟨f, hf⟩ := Option.isSome_iff_exists.mp c1.1
        exact ⟨f, _, by rw [List.filterMap_cons, hf]⟩
    rw [hfm, ef, oneTypeOnly'_eq, List.mapM_toArray, map_eq_pure_bind]
    refine wpAny_bind (wpAny_bind (wpAny_bind (kas_mapM (r := Value.type "int") _ (fun v hm Q' hq => ?_) (wpAny_pure ?_))))
    · obtain ⟨x, t, rfl⟩ := hint v (by rw [ef]; exact hm)
      exact wpAny_pure hq
    · have hall2 : ((List.map (fun _ => Value.type "int") (f1 :: fr)).toArray.all fun x => x == Value.type "int") = true := by
        simp only [List.all_toArray, List.all_map, List.all_eq_true]
        intro _ _
        rfl
      have h0 : (List.map (fun _ => Value.type "int") (f1 :: fr)).toArray[0]? = some (Value.type "int") := by simp
      rw [h0]
      simp only [hall2, if_true]
      have e : (Value.type "int" != Value.type "tuple") = true := by first | decide +kernel | rfl | decide
      refine wpAny_pure (wpAny_pure ?_)
      show Q (tuples' (Value.type "int" != Value.type "tuple")) _
      rw [e]
      exact hq
  | false =>
    cases c2 : (((vs.map (firstI h')).toArray[0]?).bind id).isSome with
    | true =>
      refine ⟨general', fun Q E hq => ?_, ti_general (s := { s with heap := h' }) hu hv'⟩
      rw [kat_kind_eq, List.mapM_toArray, map_eq_pure_bind]
      refine wpAny_bind (wpAny_bind (firsts_ti (s := { s with heap := h' }) vs (k := k) hv' (wpAny_pure ?_)))
      rw [if_neg (by rw [c1]; exact Bool.false_ne_true), if_pos c2]
      exact wpAny_pure hq
    | false =>
      refine ⟨oneType', fun Q E hq => ?_, ti_one (s := { s with heap := h' }) hu hv'⟩
      rw [kat_kind_eq, List.mapM_toArray, map_eq_pure_bind]
      refine wpAny_bind (wpAny_bind (firsts_ti (s := { s with heap := h' }) vs (k := k) hv' (wpAny_pure ?_)))
      rw [if_neg (by rw [c1]; exact Bool.false_ne_true), if_neg (by rw [c2]; exact Bool.false_ne_true)]
      rw [oneTypeOnly'_eq, List.mapM_toArray, map_eq_pure_bind]
      refine wpAny_bind (wpAny_bind (wpAny_bind (types_ti (s := { s with heap := h' }) vs (k := k) hv' (wpAny_pure ?_))))
      obtain ⟨v1, vr, ev⟩ : ∃ v1 vr, vs = v1 :: vr := by
        match vs, h2 with
        | v :: r, _ => exact ⟨v, r, rfl⟩
      have hall2 : ((List.map (fun _ => Value.type "tuple") vs).toArray.all fun x => x == Value.type "tuple") = true := by
        simp only [List.all_toArray, List.all_map, List.all_eq_true]
        intro _ _
        rfl
      have h0 : (List.map (fun _ => Value.type "tuple") vs).toArray[0]? = some (Value.type "tuple") := by rw [ev]; simp
      rw [h0]
      simp only [hall2, if_true]
      exact wpAny_pure (wpAny_pure hq)
end

/-! ### the rule -/
def rSortTi (K : PySem.W.Frag) : List V → Hp → VK → Prop := fun xs H Q => ∃ (a : Addr) (ps : List (Addr × List Int)), xs = [.ref a] ∧ SqL K H a (ps.map fun p => V.ref p.1) ∧ (∀ p ∈ ps, SqT K H p.1 (p.2.map V.int)) ∧
  ∀ ps' : List (Addr × List Int), ps'.Perm ps → ps'.Pairwise (fun p q => HT.lexLt q.2 p.2 = false) → ∀ d, H d = none → Q (.ref d) (upd H d (.lst (ps'.map fun p => V.ref p.1)))
def kOf (ps : List (Addr × List Int)) (u : Value) : List Int := ((ps.find? fun p => p.1 == adO u).map (·.2)).getD []
theorem pairs_refs : ∀ {ps : List (Addr × List Int)} {us : List Value}, Vals (ps.map fun p => V.ref p.1) us → us = ps.map fun p => Value.ref p.1
  | [], _, .nil => rfl
  | p :: ps, _, .cons h r => by
    cases h
    rw [List.map_cons, ← pairs_refs r]
theorem refs_vals : ∀ ps : List (Addr × List Int), Vals (ps.map fun p => V.ref p.1) (ps.map fun p => Value.ref p.1)
  | [] => .nil
  | _ :: ps => .cons rfl (refs_vals ps)
theorem map_int_inj {a b : List Int} (h : a.map V.int = b.map V.int) : a = b := by
  induction a generalizing b with
  | nil => cases b with
    | nil => rfl
    | cons x y => cases h
  | cons x r ih => cases b with
    | nil => cases h
    | cons y t =>
      simp only [List.map_cons, List.cons.injEq, V.int.injEq] at h
      rw [h.1, ih h.2]
section
variable {X : Cx}
theorem cr_sortTi (hu : X.A.units + 64 < cLine) : CallR X (.builtin "sorted") (rSortTi X.K) := by
  intro pins s σ H vs us Q I r h
  obtain ⟨a, ps, rfl, hs, ht, q⟩ := h
  obtain ⟨its, rv, hl, hz⟩ := I.list hs
  obtain ⟨u, rfl, r1⟩ := vals1 r
  cases (show u = Value.ref a from r1)
  have ei := pairs_refs rv
  have kp : ∀ p ∈ ps, kOf ps (.ref p.1) = p.2 := fun p hp => by
    unfold kOf
    cases e : ps.find? fun p' => p'.1 == adO (.ref p.1) with
    | none =>
      have := List.find?_eq_none.mp e p hp
      simp [adO] at this
    | some p' =>
      have h1 := List.find?_some e
      have h2 := List.mem_of_find?_eq_some e
      have h1' : p'.1 = p.1 := by simpa [adO] using h1
      have t1 := ht p' h2
      rw [h1'] at t1
      exact map_int_inj (I.tuple_inj t1 (ht p hp))
  have hv : ∀ u ∈ its, IsTi s.heap u (kOf ps u) := fun u hm => by
    rw [ei] at hm
    obtain ⟨p, hp, rfl⟩ := List.mem_map.mp hm
    rw [kp p hp]
    obtain ⟨vs, r2, ⟨o, g, c, n, d⟩, _⟩ := I.tuple (ht p hp)
    exact ⟨p.1, o, _, n, rfl, g, c, d, by rw [List.toList_toArray]; exact intsAre_of r2⟩
  refine SrtO.sorted_ord (NtL.swo_lexL (kOf ps)) hl.isList (by rw [← rv.length]; exact hz) (fun h2 h₁ a' ha' kk => ?_) fun out h1 h2 => ?_
  · refine ti_sortable (s := { s with heap := h₁ }) h2 (by show X.A.units + 1 + 1 < cLine; omega) (fun v hm => (hv v hm).keeps fun b o e _ => (kk b o e).2) fun o e c => ?_
    have e' : some o = some (seqObj "list" its.toArray 0) := e.symm.trans ha'
    cases e'
    exact absurd (Value.type.inj c) (by decide)
  · obtain ⟨ep, he'⟩ := PyProof.Rows.sortedAll_at s.heap its out.toArray
    have back : ∀ l : List Value, (∀ u ∈ l, u ∈ its) → l = (l.map fun u => (adO u, kOf ps u)).map fun p => Value.ref p.1 := fun l => by
      induction l with
      | nil => intro _; rfl
      | cons u l ih =>
        intro h
        have hm := h u List.mem_cons_self
        rw [ei] at hm
        obtain ⟨p, hp, rfl⟩ := List.mem_map.mp hm
        rw [List.map_cons, List.map_cons, ← ih fun z hz => h z (List.mem_cons_of_mem _ hz)]
        rfl
    have hps : (its.map fun u => (adO u, kOf ps u)) = ps := by
      rw [ei, List.map_map]
      have : ∀ p ∈ ps, ((fun u => (adO u, kOf ps u)) ∘ fun p => Value.ref p.1) p = p := fun p hp => by
        show (adO (.ref p.1), kOf ps (.ref p.1)) = p
        rw [kp p hp]
        rfl
      exact (List.map_congr_left this).trans (List.map_id _)
    have hperm : (out.map fun u => (adO u, kOf ps u)).Perm ps := by
      have := h2.perm.map fun u => (adO u, kOf ps u)
      rw [hps] at this
      exact this
    have hsort : (out.map fun u => (adO u, kOf ps u)).Pairwise (fun p q => HT.lexLt q.2 p.2 = false) := List.pairwise_map.mpr (h1.imp fun {x y} z => z)
    have hlen : ((out.map fun u => (adO u, kOf ps u)).map fun p => V.ref p.1).length ≤ sizeLine := by
      rw [List.length_map, hperm.length_eq]
      rw [List.length_map] at hz
      exact hz
    have rvo : Vals ((out.map fun u => (adO u, kOf ps u)).map fun p => V.ref p.1) out := by
      have z := refs_vals (out.map fun u => (adO u, kOf ps u))
      rw [← back out fun u hm => h2.perm.mem_iff.mp hm] at z
      exact z
    exact ⟨.ref _, upd H (s.heap.objs.size + 1) (.lst _), I.laid (t' := s.toks) (fun _ _ => PyProof.Rows.sortedAll_old) (Nat.le_succ _) ⟨hlen, out, ep, rvo, he'⟩, rfl, q _ hperm hsort _ (I.hok.fresh (Nat.le_succ _))⟩
end
/-! ### its meaning -/
def insT (x : List Int) : List (List Int) → List (List Int)
  | [] => [x]
  | y :: r => if HT.lexLt y x = true then y :: insT x r else x :: y :: r
def sortT (l : List (List Int)) : List (List Int) := l.foldr insT []
abbrev SrtT (l : List (List Int)) : Prop := l.Pairwise fun x y => HT.lexLt y x = false
theorem insT_perm (x : List Int) : ∀ l, (insT x l).Perm (x :: l)
  | [] => .refl _
  | y :: r => by
    unfold insT
    split
    · exact ((insT_perm x r).cons y).trans (.swap x y r)
    · exact .refl _
theorem sortT_perm : ∀ l, (sortT l).Perm l
  | [] => .refl _
  | x :: l => (insT_perm x (sortT l)).trans ((sortT_perm l).cons x)
theorem insT_srt {x : List Int} : ∀ {l}, SrtT l → SrtT (insT x l)
  | [], _ => List.pairwise_singleton _ _
  | y :: r, h => by
    obtain ⟨h1, h2⟩ := List.pairwise_cons.mp h
    unfold insT
    split
    · rename_i c
      refine List.pairwise_cons.mpr ⟨fun z hz => ?_, insT_srt h2⟩
      rcases List.mem_cons.mp ((insT_perm x r).mem_iff.mp hz) with e | hz
      · subst e
        exact NtL.lex_asym _ _ c
      · exact h1 z hz
    · rename_i c
      have c' : HT.lexLt y x = false := by simpa using c
      refine List.pairwise_cons.mpr ⟨fun z hz => ?_, h⟩
      rcases List.mem_cons.mp hz with e | hz
      · subst e
        exact c'
      · exact NtL.lex_tr _ _ _ c' (h1 z hz)
theorem sortT_srt : ∀ l, SrtT (sortT l)
  | [] => List.Pairwise.nil
  | x :: l => insT_srt (sortT_srt l)
theorem lex_eq : ∀ x y : List Int, HT.lexLt x y = false → HT.lexLt y x = false → x = y
  | [], [], _, _ => rfl
  | [], y :: r, h, _ => by rw [HT.lexLt_nil_cons] at h; cases h
  | x :: r, [], _, h => by rw [HT.lexLt_nil_cons] at h; cases h
  | x :: r, y :: t, h, h' => by
    rw [HT.lexLt_cons] at h h'
    by_cases e : x = y
    · subst e
      rw [if_pos rfl] at h h'
      rw [lex_eq r t h h']
    · rw [if_neg e] at h
      rw [if_neg (Ne.symm e)] at h'
      have h1 := of_decide_eq_false h
      have h2 := of_decide_eq_false h'
      omega
theorem srt_unique : ∀ {a b : List (List Int)}, a.Perm b → SrtT a → SrtT b → a = b
  | [], b, p, _, _ => (List.nil_perm.mp p).symm
  | x :: a, [], p, _, _ => absurd p.length_eq (by simp)
  | x :: a, y :: b, p, h, h' => by
    have e : x = y := by
      have hx : x ∈ y :: b := p.mem_iff.mp List.mem_cons_self
      have hy : y ∈ x :: a := p.mem_iff.mpr List.mem_cons_self
      rcases List.mem_cons.mp hx with e | hx
      · exact e
      · rcases List.mem_cons.mp hy with e | hy
        · exact e.symm
        · exact lex_eq x y ((List.pairwise_cons.mp h').1 x hx) ((List.pairwise_cons.mp h).1 y hy)
    subst e
    rw [srt_unique (List.perm_cons x |>.mp p) (List.pairwise_cons.mp h).2 (List.pairwise_cons.mp h').2]
def tupI (ns : List Int) : D := .tup (ns.map D.int)
def tupsI : List D → Option (List (List Int))
  | [] => some []
  | .tup ds :: r => (intsD ds).bind fun ns => (tupsI r).map (ns :: ·)
  | _ :: _ => none
def sortTD : List D → Option D
  | [.lst ds] => (tupsI ds).map fun l => .lst ((sortT l).map tupI)
  | _ => none
variable {K : PySem.W.Frag} {G H : Hp}
theorem tups_ref : ∀ {ds : List D} {vs : List V} {l : List (List Int)}, Rps K G vs ds → tupsI ds = some l → ∃ ps : List (Addr × List Int), vs = ps.map (fun p => V.ref p.1) ∧ ps.map (·.2) = l ∧ ∀ p ∈ ps, SqT K G p.1 (p.2.map V.int)
  | [], _, l, r, h => by
    cases r
    cases h
    exact ⟨[], rfl, rfl, fun _ h => absurd h (by simp)⟩
  | d :: ds, _, l, r, h => by
    cases r with
    | cons a b =>
      cases d with
      | tup xs =>
        obtain ⟨ns, h1, h⟩ := Option.bind_eq_some_iff.mp h
        obtain ⟨l', h2, rfl⟩ := Option.map_eq_some_iff.mp h
        obtain ⟨t, us, rfl, s1, r1⟩ := rp_tup a
        obtain ⟨ps, e1, e2, e3⟩ := tups_ref b h2
        rw [intsD_ints h1] at r1
        rw [Rps.of_vals r1] at s1
        refine ⟨(t, ns) :: ps, by rw [e1]; rfl, by rw [← e2]; rfl, fun p hp => ?_⟩
        rcases List.mem_cons.mp hp with e | hp
        · subst e
          exact s1
        · exact e3 p hp
      | val v => cases h
      | lst xs => cases h
theorem rps_tups : ∀ {ps : List (Addr × List Int)}, (∀ p ∈ ps, SqT K G p.1 (p.2.map V.int)) → Rps K G (ps.map fun p => V.ref p.1) ((ps.map (·.2)).map tupI)
  | [], _ => .nil
  | p :: ps, h => .cons (.tup (h p List.mem_cons_self) (rps_intsT p.2)) (rps_tups fun q hq => h q (List.mem_cons_of_mem _ hq))
where rps_intsT : ∀ ns : List Int, Rps K G (ns.map V.int) (ns.map D.int)
  | [] => .nil
  | n :: ns => .cons (.val _) (rps_intsT ns)
theorem rc_sortT : RCM K (rSortTi K) sortTD := fun xs as d G H e r h Q q => by
  unfold sortTD at h
  split at h
  · obtain ⟨l, hl, rfl⟩ := Option.map_eq_some_iff.mp h
    obtain ⟨v, rfl, r0⟩ := rps_one r
    obtain ⟨p, vs, rfl, h1, r1⟩ := rp_lst r0
    obtain ⟨ps, rfl, e2, e3⟩ := tups_ref r1 hl
    refine ⟨p, ps, rfl, ex_l e h1, fun p hp => ex_t e (e3 p hp), fun ps' hp hs => ?_⟩
    have el : ps'.map (·.2) = sortT l := srt_unique ((hp.map (·.2)).trans (by rw [e2]; exact (sortT_perm l).symm)) (List.pairwise_map.mpr hs) (sortT_srt l)
    have rr := rps_tups (K := K) (G := G) (ps := ps') fun p h => e3 p (hp.mem_iff.mp h)
    rw [el] at rr
    exact new_lst e rr q
  · cases h
theorem b_sortT {X : Cx} {j : Nat} (hr : Room j X.A) {K : PySem.W.Frag} (hK : X.K = K := by rfl) : BR X (.builtin "sorted") (rSortTi K) sortTD := by
  subst hK
  exact ⟨cr_sortTi hr.units, rc_sortT⟩
end DD

set_option Elab.async false
set_option linter.all false
set_option maxRecDepth 100000
set_option maxHeartbeats 4000000
/-! DD18: the opening line of a law: behind it a token is out. -/
namespace DD
open PySem PySem.Spec PyProof.Rows L2 Evl
section
variable {X : Cx} {W : WX} {x y z : Str} {sts : List Stmt} {tu : TS} {mu : MS}
theorem pb_first (i k : Nat) {f : Addr} {kk j n : Nat} {F : List D → Option D} {a b : Int} {ja jb : Nat} {p0 p1 p2 p3 pc pos pos' : Pos} (hN : X.N.Nodup) (T : FnD X.prog X.w X.K X.mg X.base f z kk n F) (hr : Room j X.A) (rest : JPB X 1 [] W sts tu mu) (hkk : kk ≤ j := by decide)
    (hi : X.N[i]? = some x := by rfl) (hx : Loc X.env.scope x := by first | exact .inl rfl | exact .inr rfl) (hi2 : X.N[k]? = some y := by rfl) (hv : Vis X.env.scope y := by first | exact Or.inl rfl | exact Or.inr (Or.inl rfl) | exact Or.inr (Or.inr rfl)) (hg : Gl X z := by rfl)
    (hd : (y == ("__debug__" : Str)) = false := by decide) (hcd : (y == ("__classdict__" : Str)) = false := by decide) (hdb : (z == ("__debug__" : Str)) = false := by decide)
    (hs : swapsWith (.Call (.Name z pc) [.Name y p1, .Constant (.int a) ja p2, .Constant (.int b) jb p3] [] p0) (some (.Name x pos')) pos.line X.env = pure false := by rfl) (hf : X.fn x = true ∨ X.env.scope.names.lookup x = some .local := by first | exact .inl rfl | exact .inr rfl)
    (he : starEach [.Name y p1, .Constant (.int a) ja p2, .Constant (.int b) jb p3] X.env = (false, eval (.Name y p1) X.env) :: starEach [.Constant (.int a) ja p2, .Constant (.int b) jb p3] X.env := by rfl)
    (he2 : starEach [.Constant (.int a) ja p2, .Constant (.int b) jb p3] X.env = [(false, eval (.Constant (.int a) ja p2) X.env), (false, eval (.Constant (.int b) jb p3) X.env)] := by rfl)
    (hpl : (backTo p0 (starEach [.Constant (.int a) ja p2, .Constant (.int b) jb p3] X.env)).any (·.1) = false := by rfl) {K : PySem.W.Frag} (hK : X.K = K := by rfl) :
    JPB X 0 [] W (.Assign [.Name x pos'] (.Call (.Name z pc) [.Name y p1, .Constant (.int a) ja p2, .Constant (.int b) jb p3] [] p0) pos :: sts)
      (tSeq (tAsg (tCall (spD K n F) [] E0 (tCons (tVar k) (tCons (tC (.int a)) (tCons (tC (.int b)) tNil)))) (gName i)) tu) (mSeq (mAsg i (mCall F (mCons (mVar k) (mCons (mC (.int a)) (mCons (mC (.int b)) mNil))))) mu) := by
  subst hK
  refine ⟨⟨fun pins s σ H D I nz h => ?_⟩, sm_seq (sm_asg (em_call T.ar (am_cons em_var (am_cons em_c (am_cons em_c am_nil))))) rest.m⟩
  obtain ⟨fd, ps, hb, ok⟩ := T.ok
  refine wpAny_execs_cons (wpAny_Assign_Name (wpAny_Call_Name_kw (ld_glob I hg T.g ?_ hdb)) hs)
  refine PySem.W.callWith_K (h₀ := X.base) I.ok.mod.kin T.kp ?_ he hpl
  rw [he, he2]
  show wpAny _ _ (spliced ((false, eval (.Name y p1) X.env) :: (false, eval (.Constant (.int a) ja p2) X.env) :: (false, eval (.Constant (.int b) jb p3) X.env) :: [])) _ _ s
  refine Calls.spliced_cons (thn ((pe_var hi2 hv hd hcd).run pins s σ H _ I h) fun u s1 ⟨v, H1, I1, r1, q1⟩ => ?_)
  refine Calls.spliced_cons (wpAny_Constant_int (Calls.spliced_cons (wpAny_Constant_int (Calls.spliced_nil ?_))))
  have I2 : Inv X pins σ H1 { s1 with toks := s1.toks + 1 + 1 } := I1.tok _
  refine ⟨I2.kIn, ?_⟩
  refine thk (run_fn (vs := [v, .int a, .int b]) ok (hr.mono hkk) hb .nil pass0 I2 (.cons r1 (.cons ⟨_, rfl⟩ (.cons ⟨_, rfl⟩ .nil))) q1) fun w s3 t3 ⟨v3, H3, I3, r3, q3⟩ => ?_
  have t3' : s1.toks + 1 + 1 ≤ s3.toks := t3
  refine wpAny_mono (PySem.wpAny_toks (store_ok I3 hN hi hx r3 (Q := fun _ s4 => Inv X pins (σ.set i (some v3)) H3 s4) (fun s4 I4 => I4) hf)) (fun _ s4 z4 => ?_) fun _ _ z => z.2
  obtain ⟨t4, I4⟩ := z4
  obtain ⟨m, hm, _⟩ := id I4.loc
  exact rest.p.run pins s4 _ H3 D I4 ⟨by omega, m, hm, fun f hf => absurd hf (by simp)⟩ q3
end
end DD

set_option Elab.async false
set_option linter.all false
set_option maxRecDepth 100000
set_option maxHeartbeats 8000000
namespace K85
open PySem PySem.Spec PyProof.Rows L2 Evl DD
def topS (i : Nat) : Stmt := PySem.Challenge.pw_treesasked_k85_notes_of_places.main.body.getD i (.Pass ⟨0, 0, 0, 0⟩)
/-- what the top has left: built-ins, constants -/
structure Tx (K : PySem.W.Frag) (mg : Str → Option Value) : Prop where
  b_len : mg "len" = none
  b_all : mg "all" = none
  b_str : mg "str" = none
  b_int : mg "int" = none
  b_tuple : mg "tuple" = none
  b_list : mg "list" = none
  b_zip : mg "zip" = none
  b_enumerate : mg "enumerate" = none
  b_range : mg "range" = none
  b_sorted : mg "sorted" = none
  b_isinstance : mg "isinstance" = none
  g_FIGURES : ∃ u, mg "FIGURES" = some u ∧ RelV (.str "0123456789") u
  g_MOST_FIGURES : ∃ u, mg "MOST_FIGURES" = some u ∧ RelV (.int 6) u
  g_ROOT : ∃ u, mg "ROOT" = some u ∧ RelV (.str ".") u
section
variable {P : Program} {w : World} {K : PySem.W.Frag} {mg : Str → Option Value} {base : Heap}
abbrev s_lines_of : Stmt := topS 8
abbrev N_lines_of : List Str := ["text"]
theorem sc_lines_of : FnScope N_lines_of ["text"] (defScope s_lines_of) := ⟨rfl, rfl, rfl, by decide +kernel, rfl, by decide +kernel, by decide +kernel⟩
def m_lines_of : MS := (mRet (mMeth splitD (mVar 0) (mCons (mC (.str "\n")) mNil)))
def F_lines_of : List D → Option D := runF N_lines_of 1 (m_lines_of)
theorem fn_lines_of (T : Tx K mg) {f : Addr} {fd : FuncData} (F : Fun K "lines_of" "lines_of" s_lines_of f fd) (hb : Binds K fd ["text"] []) (hg : mg "lines_of" = some (.ref f)) :
    FnD P w K mg base f "lines_of" 2 1 (F_lines_of) := by
  refine fnD_of (m := m_lines_of) F sc_lines_of hb hg rfl (fun cdv A0 outer s H E hr => ?_)
  have nd : N_lines_of.Nodup := sc_lines_of.nd
  exact ⟨_, (b_one (s_ret (j_bm (K := K) (m_split (K := K)) (j_var 0) (a_cons j_str a_nil))))⟩

abbrev s_words_of : Stmt := topS 9
abbrev N_words_of : List Str := ["line"]
theorem sc_words_of : FnScope N_words_of ["line"] (defScope s_words_of) := ⟨rfl, rfl, rfl, by decide +kernel, rfl, by decide +kernel, by decide +kernel⟩
def m_words_of : MS := (mRet (mMeth splitD (mVar 0) (mCons (mC (.str " ")) mNil)))
def F_words_of : List D → Option D := runF N_words_of 1 (m_words_of)
theorem fn_words_of (T : Tx K mg) {f : Addr} {fd : FuncData} (F : Fun K "words_of" "words_of" s_words_of f fd) (hb : Binds K fd ["line"] []) (hg : mg "words_of" = some (.ref f)) :
    FnD P w K mg base f "words_of" 2 1 (F_words_of) := by
  refine fnD_of (m := m_words_of) F sc_words_of hb hg rfl (fun cdv A0 outer s H E hr => ?_)
  have nd : N_words_of.Nodup := sc_words_of.nd
  exact ⟨_, (b_one (s_ret (j_bm (K := K) (m_split (K := K)) (j_var 0) (a_cons j_str a_nil))))⟩

abbrev s_number_of : Stmt := topS 10
abbrev N_number_of : List Str := ["word", "sign"]
theorem sc_number_of : FnScope N_number_of ["word"] (defScope s_number_of) := ⟨rfl, rfl, rfl, by decide +kernel, rfl, by decide +kernel, by decide +kernel⟩
def m_number_of : MS := (mSeq (mIfS (mOr (mNot (mTest (mChain leD leD (mC (.int 1)) (mCall lenD (mCons (mVar 0) mNil)) (mC (.int 6))))) (mNot (mTru (mCall allD (mCons (mLst (mLc (mItems (mVar 0)) (gN 1) mYes (mOp inD (mVar 1) (mC (.str "0123456789"))) [1])) mNil))))) (mRet (mC .non)) mNext) (mRet (mIf (mAnd (mTest (mOp gtD (mCall lenD (mCons (mVar 0) mNil)) (mC (.int 1)))) (mTest (mOp eqD (mOp ixD (mVar 0) (mC (.int 0))) (mC (.str "0"))))) (mC .non) (mCall intF (mCons (mVar 0) mNil)))))
def F_number_of : List D → Option D := runF N_number_of 1 (m_number_of)
theorem fn_number_of (T : Tx K mg) {f : Addr} {fd : FuncData} (F : Fun K "number_of" "number_of" s_number_of f fd) (hb : Binds K fd ["word"] []) (hg : mg "number_of" = some (.ref f)) :
    FnD P w K mg base f "number_of" 2 1 (F_number_of) := by
  refine fnD_of (m := m_number_of) F sc_number_of hb hg rfl (fun cdv A0 outer s H E hr => ?_)
  have nd : N_number_of.Nodup := sc_number_of.nd
  exact ⟨_, (b_cons (s_if (t_w (w_or (t_not (t_chain (c_le hr (K := K)) (c_le hr (K := K)) j_int (j_cb (b_len (K := K)) T.b_len (a_cons (j_var 0) a_nil)) (j_glob T.g_MOST_FIGURES))) (w_or1 (t_not (t_tru (K := K) (j_cb (b_all (K := K)) T.b_all (a_cons (j_f (f_lc (own := [("sign", 1)]) nd (by exact (i_any (K := K) (j_var 0))) (by exact blkOk_by (N := N_number_of) (sc := defScope s_number_of) (by decide +kernel)) (by exact fun _ _ _ _ _ => (g_name 1 nd)) (by exact fun _ _ _ _ _ => ts_nil) (by exact fun _ _ _ _ _ => (j_cmp (c_in hr (K := K)) (j_var 1) (j_glob T.g_FIGURES))))) a_nil))))))) (b_one (s_ret j_non)) b_nil) (b_one (s_ret (j_if (t_w (w_and (t_cmp c_gt (j_cb (b_len (K := K)) T.b_len (a_cons (j_var 0) a_nil)) j_int) (w_and1 (t_cmp (c_eq hr (K := K)) (j_ix (K := K) (j_var 0) j_int) j_str)))) j_non (j_ct b_int T.b_int (a_cons (j_var 0) a_nil))))))⟩

abbrev s_numbers_of : Stmt := topS 11
abbrev N_numbers_of : List Str := ["words", "found", "word"]
theorem sc_numbers_of : FnScope N_numbers_of ["words"] (defScope s_numbers_of) := ⟨rfl, rfl, rfl, by decide +kernel, rfl, by decide +kernel, by decide +kernel⟩
def m_numbers_of : MS := (mSeq (mAsg 1 (mLst (mLc (mItems (mVar 0)) (gN 2) mYes (mCall F_number_of (mCons (mVar 2) mNil)) [2]))) (mRet (mIf (mTest (mOp inD (mC .non) (mVar 1))) (mC .non) (mVar 1))))
def F_numbers_of : List D → Option D := runF N_numbers_of 1 (m_numbers_of)
theorem fn_numbers_of (T : Tx K mg) {f : Addr} {fd : FuncData} (F : Fun K "numbers_of" "numbers_of" s_numbers_of f fd) (hb : Binds K fd ["words"] []) (hg : mg "numbers_of" = some (.ref f)) {b_number_of : Addr} (C_number_of : FnD P w K mg base b_number_of "number_of" 2 1 F_number_of) :
    FnD P w K mg base f "numbers_of" 3 1 (F_numbers_of) := by
  refine fnD_of (m := m_numbers_of) F sc_numbers_of hb hg rfl (fun cdv A0 outer s H E hr => ?_)
  have nd : N_numbers_of.Nodup := sc_numbers_of.nd
  exact ⟨_, (b_cons (s_setLc (own := [("word", 2)]) 1 nd (by exact (i_any (K := K) (j_var 0))) (by exact blkOk_by (N := N_numbers_of) (sc := defScope s_numbers_of) (by decide +kernel)) (by exact fun _ _ _ _ _ => (g_name 2 nd)) (by exact fun _ _ _ _ _ => ts_nil) (by exact fun _ _ _ _ _ => (j_call (K := K) C_number_of hr (a_cons (j_var 2) a_nil)))) (b_one (s_ret (j_if (t_cmp (c_in hr (K := K)) j_non (j_var 1)) j_non (j_var 1)))))⟩

abbrev s_is_rising : Stmt := topS 12
abbrev N_is_rising : List Str := ["listed", "before", "after"]
theorem sc_is_rising : FnScope N_is_rising ["listed"] (defScope s_is_rising) := ⟨rfl, rfl, rfl, by decide +kernel, rfl, by decide +kernel, by decide +kernel⟩
def m_is_rising : MS := (mRet (mCall allD (mCons (mLst (mLc (mZip (mCons (mVar 0) (mCons (mSl slD (mVar 0) (mPart (mC (.int 1))) mNoPart) mNil))) (gT [1, 2]) mYes (mOp ltD (mVar 1) (mVar 2)) [1, 2])) mNil)))
def F_is_rising : List D → Option D := runF N_is_rising 1 (m_is_rising)
theorem fn_is_rising (T : Tx K mg) {f : Addr} {fd : FuncData} (F : Fun K "is_rising" "is_rising" s_is_rising f fd) (hb : Binds K fd ["listed"] []) (hg : mg "is_rising" = some (.ref f)) :
    FnD P w K mg base f "is_rising" 2 1 (F_is_rising) := by
  refine fnD_of (m := m_is_rising) F sc_is_rising hb hg rfl (fun cdv A0 outer s H E hr => ?_)
  have nd : N_is_rising.Nodup := sc_is_rising.nd
  exact ⟨_, (b_one (s_ret (j_cb (b_all (K := K)) T.b_all (a_cons (j_f (f_lc (own := [("before", 1), ("after", 2)]) nd (by exact (i_zip (K := K) T.b_zip (a_cons (j_var 0) (a_cons (j_sl (K := K) (j_var 0) (o_some j_int) o_none) a_nil)))) (by exact blkOk_by (N := N_is_rising) (sc := defScope s_is_rising) (by decide +kernel)) (by exact fun _ _ _ _ _ => (g_tup (K := K) (gs_cons 1 nd (gs_cons 2 nd gs_nil)))) (by exact fun _ _ _ _ _ => ts_nil) (by exact fun _ _ _ _ _ => (j_cmp (c_lt hr (K := K)) (j_var 1) (j_var 2))))) a_nil))))⟩

abbrev s_place_word : Stmt := topS 13
abbrev N_place_word : List Str := ["place", "index"]
theorem sc_place_word : FnScope N_place_word ["place"] (defScope s_place_word) := ⟨rfl, rfl, rfl, by decide +kernel, rfl, by decide +kernel, by decide +kernel⟩
def m_place_word : MS := (mRet (mIf (mTru (mVar 0)) (mMeth joinD (mC (.str ".")) (mCons (mLst (mLc (mItems (mVar 0)) (gN 1) mYes (mCall strD (mCons (mVar 1) mNil)) [1])) mNil)) (mC (.str "."))))
def F_place_word : List D → Option D := runF N_place_word 1 (m_place_word)
theorem fn_place_word (T : Tx K mg) {f : Addr} {fd : FuncData} (F : Fun K "place_word" "place_word" s_place_word f fd) (hb : Binds K fd ["place"] []) (hg : mg "place_word" = some (.ref f)) :
    FnD P w K mg base f "place_word" 2 1 (F_place_word) := by
  refine fnD_of (m := m_place_word) F sc_place_word hb hg rfl (fun cdv A0 outer s H E hr => ?_)
  have nd : N_place_word.Nodup := sc_place_word.nd
  exact ⟨_, (b_one (s_ret (j_if (t_tru (K := K) (j_var 0)) (j_bm (K := K) (m_join (K := K)) j_str (a_cons (j_f (f_lc (own := [("index", 1)]) nd (by exact (i_any (K := K) (j_var 0))) (by exact blkOk_by (N := N_place_word) (sc := defScope s_place_word) (by decide +kernel)) (by exact fun _ _ _ _ _ => (g_name 1 nd)) (by exact fun _ _ _ _ _ => ts_nil) (by exact fun _ _ _ _ _ => (j_ct b_str T.b_str (a_cons (j_var 1) a_nil))))) a_nil)) (j_glob T.g_ROOT))))⟩

abbrev s_place_of : Stmt := topS 14
abbrev N_place_of : List Str := ["word", "numbers"]
theorem sc_place_of : FnScope N_place_of ["word"] (defScope s_place_of) := ⟨rfl, rfl, rfl, by decide +kernel, rfl, by decide +kernel, by decide +kernel⟩
def m_place_of : MS := (mSeq (mIfS (mTest (mOp eqD (mVar 0) (mC (.str ".")))) (mRet (mTup mNil)) mNext) (mSeq (mAsg 1 (mCall F_numbers_of (mCons (mMeth splitD (mVar 0) (mCons (mC (.str ".")) mNil)) mNil))) (mRet (mIf (mTest (mOp isND (mVar 1) (mC .non))) (mC .non) (mCall tupleD (mCons (mVar 1) mNil))))))
def F_place_of : List D → Option D := runF N_place_of 1 (m_place_of)
theorem fn_place_of (T : Tx K mg) {f : Addr} {fd : FuncData} (F : Fun K "place_of" "place_of" s_place_of f fd) (hb : Binds K fd ["word"] []) (hg : mg "place_of" = some (.ref f)) {b_numbers_of : Addr} (C_numbers_of : FnD P w K mg base b_numbers_of "numbers_of" 3 1 F_numbers_of) :
    FnD P w K mg base f "place_of" 4 1 (F_place_of) := by
  refine fnD_of (m := m_place_of) F sc_place_of hb hg rfl (fun cdv A0 outer s H E hr => ?_)
  have nd : N_place_of.Nodup := sc_place_of.nd
  exact ⟨_, (b_cons (s_if (t_cmp (c_eq hr (K := K)) (j_var 0) (j_glob T.g_ROOT)) (b_one (s_ret (j_tup a_nil))) b_nil) (b_cons (s_set 1 nd (j_call (K := K) C_numbers_of hr (a_cons (j_bm (K := K) (m_split (K := K)) (j_var 0) (a_cons j_str a_nil)) a_nil))) (b_one (s_ret (j_if (t_cmp c_is (j_var 1) j_non) j_non (j_ct (b_tuple (K := K)) T.b_tuple (a_cons (j_var 1) a_nil)))))))⟩

abbrev s_places_of : Stmt := topS 15
abbrev N_places_of : List Str := ["words", "found", "word"]
theorem sc_places_of : FnScope N_places_of ["words"] (defScope s_places_of) := ⟨rfl, rfl, rfl, by decide +kernel, rfl, by decide +kernel, by decide +kernel⟩
def m_places_of : MS := (mSeq (mAsg 1 (mLst (mLc (mItems (mVar 0)) (gN 2) mYes (mCall F_place_of (mCons (mVar 2) mNil)) [2]))) (mRet (mIf (mOr (mTest (mOp inD (mC .non) (mVar 1))) (mNot (mTru (mCall F_is_rising (mCons (mVar 1) mNil))))) (mC .non) (mVar 1))))
def F_places_of : List D → Option D := runF N_places_of 1 (m_places_of)
theorem fn_places_of (T : Tx K mg) {f : Addr} {fd : FuncData} (F : Fun K "places_of" "places_of" s_places_of f fd) (hb : Binds K fd ["words"] []) (hg : mg "places_of" = some (.ref f)) {b_place_of : Addr} (C_place_of : FnD P w K mg base b_place_of "place_of" 4 1 F_place_of) {b_is_rising : Addr} (C_is_rising : FnD P w K mg base b_is_rising "is_rising" 2 1 F_is_rising) :
    FnD P w K mg base f "places_of" 5 1 (F_places_of) := by
  refine fnD_of (m := m_places_of) F sc_places_of hb hg rfl (fun cdv A0 outer s H E hr => ?_)
  have nd : N_places_of.Nodup := sc_places_of.nd
  exact ⟨_, (b_cons (s_setLc (own := [("word", 2)]) 1 nd (by exact (i_any (K := K) (j_var 0))) (by exact blkOk_by (N := N_places_of) (sc := defScope s_places_of) (by decide +kernel)) (by exact fun _ _ _ _ _ => (g_name 2 nd)) (by exact fun _ _ _ _ _ => ts_nil) (by exact fun _ _ _ _ _ => (j_call (K := K) C_place_of hr (a_cons (j_var 2) a_nil)))) (b_one (s_ret (j_if (t_w (w_or (t_cmp (c_in hr (K := K)) j_non (j_var 1)) (w_or1 (t_not (t_tru (K := K) (j_call (K := K) C_is_rising hr (a_cons (j_var 1) a_nil))))))) j_non (j_var 1)))))⟩

abbrev s_read_lines : Stmt := topS 16
abbrev N_read_lines : List Str := ["text", "form", "found", "index", "line", "told"]
theorem sc_read_lines : FnScope N_read_lines ["text", "form"] (defScope s_read_lines) := ⟨rfl, rfl, rfl, by decide +kernel, rfl, by decide +kernel, by decide +kernel⟩
def m_read_lines (Tb : Addr → Option (List D → Option D)) (c_BadLine : Addr) : MS := (mSeq (mAsgO 2 (few mNil)) (mSeq (mFor (mEnum (mCons (mCall F_lines_of (mCons (mVar 0) mNil)) mNil)) (gT [3, 4]) (mSeq (mAsg 5 (mCallA 1 Tb (mCons (mVar 4) mNil))) (mSeq (mIfS (mTest (mOp isND (mVar 5) (mC .non))) (mRaise c_BadLine "line" (mVar 3)) mNext) (mApp 2 (mVar 5))))) (fun ρ => (mRet (mVar 2)) (frz 2 ρ))))
def F_read_lines (Tb : Addr → Option (List D → Option D)) (c_BadLine : Addr) : List D → Option Res := runX N_read_lines 2 (m_read_lines Tb c_BadLine)
theorem fn_read_lines (T : Tx K mg) {f : Addr} {fd : FuncData} (F : Fun K "read_lines" "read_lines" s_read_lines f fd) (hb : Binds K fd ["text", "form"] []) (hg : mg "read_lines" = some (.ref f)) {Tb : Addr → Option (List D → Option D)} {c_BadLine : Addr} (A : ∀ f F, Tb f = some F → HeldD P w K mg base 9 1 f F) {b_lines_of : Addr} (C_lines_of : FnD P w K mg base b_lines_of "lines_of" 2 1 F_lines_of) (E_BadLine : ErrT P w K mg base "BadLine" c_BadLine "line") :
    FnX P w K mg base f "read_lines" 10 2 (F_read_lines Tb c_BadLine) := by
  refine fnX_of (m := m_read_lines Tb c_BadLine) F sc_read_lines hb hg rfl (fun cdv A0 outer s H E hr => ?_)
  have nd : N_read_lines.Nodup := sc_read_lines.nd
  have tk : Takes (cxOf (L2.CX P w) P w K mg base N_read_lines "read_lines" (defScope s_read_lines) f cdv A0 outer s H E) (WD E) := takes_of rfl rfl rfl rfl
  exact ⟨_, (b_cons (s_setO 2 nd (f_lst a_nil)) (b_cons (s_for (passes_of rfl) (i_enum (K := K) T.b_enumerate (a_cons (j_call (K := K) C_lines_of hr (a_cons (j_var 0) a_nil)) a_nil)) (g_tup (K := K) (gs_cons 3 nd (gs_cons 4 nd gs_nil))) (b_cons (s_set 5 nd (j_callA 1 1 (K := K) A (hr.mono (by decide)) (a_cons (j_var 4) a_nil))) (b_cons (s_if (t_cmp c_is (j_var 5) j_non) (b_one (s_raise E_BadLine hr tk (j_var 3))) b_nil) (b_one (s_app (K := K) 2 (j_var 5)))))) (b_frz 2 (b_one (s_ret (j_var 2))))))⟩

abbrev s_read_one : Stmt := topS 17
abbrev N_read_one : List Str := ["text", "form", "found"]
theorem sc_read_one : FnScope N_read_one ["text", "form"] (defScope s_read_one) := ⟨rfl, rfl, rfl, by decide +kernel, rfl, by decide +kernel, by decide +kernel⟩
def m_read_one (Tb : Addr → Option (List D → Option D)) (c_BadLine : Addr) : MS := (mSeq (mAsgX 2 (mCallX (F_read_lines Tb c_BadLine) (mCons (mVar 0) (mCons (mVar 1) mNil)))) (mSeq (mIfS (mTest (mOp gtD (mCall lenD (mCons (mVar 2) mNil)) (mC (.int 1)))) (mRaise c_BadLine "line" (mC (.int 1))) mNext) (mRet (mOp ixD (mVar 2) (mC (.int 0))))))
def F_read_one (Tb : Addr → Option (List D → Option D)) (c_BadLine : Addr) : List D → Option Res := runX N_read_one 2 (m_read_one Tb c_BadLine)
theorem fn_read_one (T : Tx K mg) {f : Addr} {fd : FuncData} (F : Fun K "read_one" "read_one" s_read_one f fd) (hb : Binds K fd ["text", "form"] []) (hg : mg "read_one" = some (.ref f)) {Tb : Addr → Option (List D → Option D)} {c_BadLine : Addr} {b_read_lines : Addr} (C_read_lines : FnX P w K mg base b_read_lines "read_lines" 10 2 (F_read_lines Tb c_BadLine)) (E_BadLine : ErrT P w K mg base "BadLine" c_BadLine "line") :
    FnX P w K mg base f "read_one" 11 2 (F_read_one Tb c_BadLine) := by
  refine fnX_of (m := m_read_one Tb c_BadLine) F sc_read_one hb hg rfl (fun cdv A0 outer s H E hr => ?_)
  have nd : N_read_one.Nodup := sc_read_one.nd
  have tk : Takes (cxOf (L2.CX P w) P w K mg base N_read_one "read_one" (defScope s_read_one) f cdv A0 outer s H E) (WD E) := takes_of rfl rfl rfl rfl
  exact ⟨_, (b_cons (s_setX 2 nd (x_call (K := K) C_read_lines hr tk (a_cons (j_var 0) (a_cons (j_var 1) a_nil)))) (b_cons (s_if (t_cmp c_gt (j_cb (b_len (K := K)) T.b_len (a_cons (j_var 2) a_nil)) j_int) (b_one (s_raise E_BadLine hr tk j_int)) b_nil) (b_one (s_ret (j_ix (K := K) (j_var 2) j_int)))))⟩

abbrev s_show_place : Stmt := topS 19
abbrev N_show_place : List Str := ["place"]
theorem sc_show_place : FnScope N_show_place ["place"] (defScope s_show_place) := ⟨rfl, rfl, rfl, by decide +kernel, rfl, by decide +kernel, by decide +kernel⟩
def m_show_place : MS := (mRet (mCall F_place_word (mCons (mVar 0) mNil)))
def F_show_place : List D → Option D := runF N_show_place 1 (m_show_place)
theorem fn_show_place (T : Tx K mg) {f : Addr} {fd : FuncData} (F : Fun K "show_place" "show_place" s_show_place f fd) (hb : Binds K fd ["place"] []) (hg : mg "show_place" = some (.ref f)) {b_place_word : Addr} (C_place_word : FnD P w K mg base b_place_word "place_word" 2 1 F_place_word) :
    FnD P w K mg base f "show_place" 3 1 (F_show_place) := by
  refine fnD_of (m := m_show_place) F sc_show_place hb hg rfl (fun cdv A0 outer s H E hr => ?_)
  have nd : N_show_place.Nodup := sc_show_place.nd
  exact ⟨_, (b_one (s_ret (j_call (K := K) C_place_word hr (a_cons (j_var 0) a_nil))))⟩

abbrev s_read_place : Stmt := topS 20
abbrev N_read_place : List Str := ["text"]
theorem sc_read_place : FnScope N_read_place ["text"] (defScope s_read_place) := ⟨rfl, rfl, rfl, by decide +kernel, rfl, by decide +kernel, by decide +kernel⟩
def m_read_place (f_place_of : Addr) (Tb : Addr → Option (List D → Option D)) (c_BadLine : Addr) : MS := (mRetX (mCallX (F_read_one Tb c_BadLine) (mCons (mVar 0) (mCons (mC (.ref f_place_of)) mNil))))
def F_read_place (f_place_of : Addr) (Tb : Addr → Option (List D → Option D)) (c_BadLine : Addr) : List D → Option Res := runX N_read_place 1 (m_read_place f_place_of Tb c_BadLine)
theorem fn_read_place (T : Tx K mg) {f : Addr} {fd : FuncData} (F : Fun K "read_place" "read_place" s_read_place f fd) (hb : Binds K fd ["text"] []) (hg : mg "read_place" = some (.ref f)) {f_place_of : Addr} {Tb : Addr → Option (List D → Option D)} {c_BadLine : Addr} (g_place_of : mg "place_of" = some (.ref f_place_of)) {b_read_one : Addr} (C_read_one : FnX P w K mg base b_read_one "read_one" 11 2 (F_read_one Tb c_BadLine)) :
    FnX P w K mg base f "read_place" 12 1 (F_read_place f_place_of Tb c_BadLine) := by
  refine fnX_of (m := m_read_place f_place_of Tb c_BadLine) F sc_read_place hb hg rfl (fun cdv A0 outer s H E hr => ?_)
  have nd : N_read_place.Nodup := sc_read_place.nd
  have tk : Takes (cxOf (L2.CX P w) P w K mg base N_read_place "read_place" (defScope s_read_place) f cdv A0 outer s H E) (WD E) := takes_of rfl rfl rfl rfl
  exact ⟨_, (b_one (s_retX (x_call (K := K) C_read_one hr tk (a_cons (j_var 0) (a_cons (j_glob (v := .ref f_place_of) ⟨_, g_place_of, rfl⟩) a_nil)))))⟩

abbrev s_show_places : Stmt := topS 21
abbrev N_show_places : List Str := ["places", "place"]
theorem sc_show_places : FnScope N_show_places ["places"] (defScope s_show_places) := ⟨rfl, rfl, rfl, by decide +kernel, rfl, by decide +kernel, by decide +kernel⟩
def m_show_places : MS := (mRet (mMeth joinD (mC (.str " ")) (mCons (mLst (mLc (mItems (mVar 0)) (gN 1) mYes (mCall F_place_word (mCons (mVar 1) mNil)) [1])) mNil)))
def F_show_places : List D → Option D := runF N_show_places 1 (m_show_places)
theorem fn_show_places (T : Tx K mg) {f : Addr} {fd : FuncData} (F : Fun K "show_places" "show_places" s_show_places f fd) (hb : Binds K fd ["places"] []) (hg : mg "show_places" = some (.ref f)) {b_place_word : Addr} (C_place_word : FnD P w K mg base b_place_word "place_word" 2 1 F_place_word) :
    FnD P w K mg base f "show_places" 3 1 (F_show_places) := by
  refine fnD_of (m := m_show_places) F sc_show_places hb hg rfl (fun cdv A0 outer s H E hr => ?_)
  have nd : N_show_places.Nodup := sc_show_places.nd
  exact ⟨_, (b_one (s_ret (j_bm (K := K) (m_join (K := K)) j_str (a_cons (j_f (f_lc (own := [("place", 1)]) nd (by exact (i_any (K := K) (j_var 0))) (by exact blkOk_by (N := N_show_places) (sc := defScope s_show_places) (by decide +kernel)) (by exact fun _ _ _ _ _ => (g_name 1 nd)) (by exact fun _ _ _ _ _ => ts_nil) (by exact fun _ _ _ _ _ => (j_call (K := K) C_place_word hr (a_cons (j_var 1) a_nil))))) a_nil))))⟩

abbrev s_places_line : Stmt := topS 22
abbrev N_places_line : List Str := ["line"]
theorem sc_places_line : FnScope N_places_line ["line"] (defScope s_places_line) := ⟨rfl, rfl, rfl, by decide +kernel, rfl, by decide +kernel, by decide +kernel⟩
def m_places_line : MS := (mRet (mCall F_places_of (mCons (mCall F_words_of (mCons (mVar 0) mNil)) mNil)))
def F_places_line : List D → Option D := runF N_places_line 1 (m_places_line)
theorem fn_places_line (T : Tx K mg) {f : Addr} {fd : FuncData} (F : Fun K "places_line" "places_line" s_places_line f fd) (hb : Binds K fd ["line"] []) (hg : mg "places_line" = some (.ref f)) {b_places_of : Addr} (C_places_of : FnD P w K mg base b_places_of "places_of" 5 1 F_places_of) {b_words_of : Addr} (C_words_of : FnD P w K mg base b_words_of "words_of" 2 1 F_words_of) :
    FnD P w K mg base f "places_line" 6 1 (F_places_line) := by
  refine fnD_of (m := m_places_line) F sc_places_line hb hg rfl (fun cdv A0 outer s H E hr => ?_)
  have nd : N_places_line.Nodup := sc_places_line.nd
  exact ⟨_, (b_one (s_ret (j_call (K := K) C_places_of hr (a_cons (j_call (K := K) C_words_of hr (a_cons (j_var 0) a_nil)) a_nil))))⟩

abbrev s_read_places : Stmt := topS 23
abbrev N_read_places : List Str := ["text"]
theorem sc_read_places : FnScope N_read_places ["text"] (defScope s_read_places) := ⟨rfl, rfl, rfl, by decide +kernel, rfl, by decide +kernel, by decide +kernel⟩
def m_read_places (f_places_line : Addr) (Tb : Addr → Option (List D → Option D)) (c_BadLine : Addr) : MS := (mRetX (mIfX (mTest (mOp eqD (mVar 0) (mC (.str "")))) (mOk (mLst (few mNil))) (mCallX (F_read_one Tb c_BadLine) (mCons (mVar 0) (mCons (mC (.ref f_places_line)) mNil)))))
def F_read_places (f_places_line : Addr) (Tb : Addr → Option (List D → Option D)) (c_BadLine : Addr) : List D → Option Res := runX N_read_places 1 (m_read_places f_places_line Tb c_BadLine)
theorem fn_read_places (T : Tx K mg) {f : Addr} {fd : FuncData} (F : Fun K "read_places" "read_places" s_read_places f fd) (hb : Binds K fd ["text"] []) (hg : mg "read_places" = some (.ref f)) {f_places_line : Addr} {Tb : Addr → Option (List D → Option D)} {c_BadLine : Addr} (g_places_line : mg "places_line" = some (.ref f_places_line)) {b_read_one : Addr} (C_read_one : FnX P w K mg base b_read_one "read_one" 11 2 (F_read_one Tb c_BadLine)) :
    FnX P w K mg base f "read_places" 12 1 (F_read_places f_places_line Tb c_BadLine) := by
  refine fnX_of (m := m_read_places f_places_line Tb c_BadLine) F sc_read_places hb hg rfl (fun cdv A0 outer s H E hr => ?_)
  have nd : N_read_places.Nodup := sc_read_places.nd
  have tk : Takes (cxOf (L2.CX P w) P w K mg base N_read_places "read_places" (defScope s_read_places) f cdv A0 outer s H E) (WD E) := takes_of rfl rfl rfl rfl
  exact ⟨_, (b_one (s_retX (x_if (t_cmp (c_eq hr (K := K)) (j_var 0) j_str) (x_of (j_f (f_lst a_nil))) (x_call (K := K) C_read_one hr tk (a_cons (j_var 0) (a_cons (j_glob (v := .ref f_places_line) ⟨_, g_places_line, rfl⟩) a_nil))))))⟩

abbrev s__law_numbers : Stmt := topS 25
abbrev N__law_numbers : List Str := ["script", "at", "many", "cell", "numbers", "k", "mixed"]
theorem sc__law_numbers : FnScope N__law_numbers ["script", "at", "many"] (defScope s__law_numbers) := ⟨rfl, rfl, rfl, by decide +kernel, rfl, by decide +kernel, by decide +kernel⟩
def m__law_numbers : MS := (mSeq (mAsg 3 (mOp mulD (mC (.int 1000003)) (mOp addD (mVar 1) (mC (.int 1))))) (mSeq (mIfS (mTest (mOp ltD (mVar 1) (mCall lenD (mCons (mVar 0) mNil)))) (mAsg 3 (mCall intF (mCons (mOp ixD (mVar 0) (mVar 1)) mNil))) mNext) (mSeq (mIfS (mTest (mOp ltD (mVar 3) (mC (.int 0)))) (mAsg 3 (mOp subD (mC (.int 1)) (mOp mulD (mC (.int 2)) (mVar 3)))) mNext) (mSeq (mAsgO 4 (few mNil)) (mSeq (mFor (mRange1 (mCons (mVar 2) mNil)) (gN 5) (mIfS (mTest (mOp geD (mVar 3) (mOp powD (mC (.int 10)) (mC (.int 18))))) (mSeq (mApp 4 (mOp modD (mVar 3) (mC (.int 1009)))) (mAsg 3 (mOp fdivD (mVar 3) (mC (.int 1009))))) (mSeq (mAsg 6 (mOp modD (mOp addD (mOp addD (mOp mulD (mVar 3) (mC (.int 48271))) (mOp mulD (mOp addD (mVar 5) (mC (.int 1))) (mC (.int 69621)))) (mOp mulD (mVar 1) (mC (.int 4001)))) (mC (.int 2147483647)))) (mSeq (mAsg 6 (mOp modD (mOp addD (mOp mulD (mVar 6) (mVar 6)) (mOp mulD (mC (.int 16807)) (mOp addD (mVar 5) (mC (.int 3))))) (mC (.int 2147483629)))) (mApp 4 (mOp modD (mOp fdivD (mVar 6) (mC (.int 7))) (mC (.int 1009)))))))) (fun ρ => (mRet (mVar 4)) (frz 4 ρ)))))))
def F__law_numbers : List D → Option D := runF N__law_numbers 3 (m__law_numbers)
theorem fn__law_numbers (T : Tx K mg) {f : Addr} {fd : FuncData} (F : Fun K "_law_numbers" "_law_numbers" s__law_numbers f fd) (hb : Binds K fd ["script", "at", "many"] []) (hg : mg "_law_numbers" = some (.ref f)) :
    FnD P w K mg base f "_law_numbers" 2 3 (F__law_numbers) := by
  refine fnD_of (m := m__law_numbers) F sc__law_numbers hb hg rfl (fun cdv A0 outer s H E hr => ?_)
  have nd : N__law_numbers.Nodup := sc__law_numbers.nd
  exact ⟨_, (b_cons (s_set 3 nd (j_mul j_int (j_add (K := K) (j_var 1) j_int))) (b_cons (s_if (t_cmp (c_lt hr (K := K)) (j_var 1) (j_cb (b_len (K := K)) T.b_len (a_cons (j_var 0) a_nil))) (b_one (s_set 3 nd (j_ct b_int T.b_int (a_cons (j_ix (K := K) (j_var 0) (j_var 1)) a_nil)))) b_nil) (b_cons (s_if (t_cmp (c_lt hr (K := K)) (j_var 3) j_int) (b_one (s_set 3 nd (j_sub j_int (j_mul j_int (j_var 3))))) b_nil) (b_cons (s_setO 4 nd (f_lst a_nil)) (b_cons (s_for PassesOwn.never (i_range1 T.b_range (a_cons (j_var 2) a_nil)) (g_name 5 nd) (b_one (s_if (t_cmp c_ge (j_var 3) (j_pow j_int j_int)) (b_cons (s_app (K := K) 4 (j_mod (j_var 3) j_int)) (b_one (s_set 3 nd (j_fdiv (j_var 3) j_int)))) (b_cons (s_set 6 nd (j_mod (j_add (K := K) (j_add (K := K) (j_mul (j_var 3) j_int) (j_mul (j_add (K := K) (j_var 5) j_int) j_int)) (j_mul (j_var 1) j_int)) j_int)) (b_cons (s_set 6 nd (j_mod (j_add (K := K) (j_mul (j_var 6) (j_var 6)) (j_mul j_int (j_add (K := K) (j_var 5) j_int))) j_int)) (b_one (s_app (K := K) 4 (j_mod (j_fdiv (j_var 6) j_int) j_int)))))))) (b_frz 4 (b_one (s_ret (j_var 4)))))))))⟩

abbrev s__law_number : Stmt := topS 27
abbrev N__law_number : List Str := ["word", "sign"]
theorem sc__law_number : FnScope N__law_number ["word"] (defScope s__law_number) := ⟨rfl, rfl, rfl, by decide +kernel, rfl, by decide +kernel, by decide +kernel⟩
def m__law_number : MS := (mSeq (mIfS (mOr (mTest (mOp eqD (mVar 0) (mC (.str "")))) (mOr (mTest (mOp gtD (mCall lenD (mCons (mVar 0) mNil)) (mC (.int 6)))) (mOr (mTest (mOp neD (mLst (mLc (mItems (mVar 0)) (gN 1) (mTest (mOp ninD (mVar 1) (mC (.str "0123456789")))) (mVar 1) [1])) (mLst (few mNil)))) (mAnd (mTest (mOp gtD (mCall lenD (mCons (mVar 0) mNil)) (mC (.int 1)))) (mTest (mOp eqD (mOp ixD (mVar 0) (mC (.int 0))) (mC (.str "0")))))))) (mRet (mC .non)) mNext) (mRet (mCall intF (mCons (mVar 0) mNil))))
def F__law_number : List D → Option D := runF N__law_number 1 (m__law_number)
theorem fn__law_number (T : Tx K mg) {f : Addr} {fd : FuncData} (F : Fun K "_law_number" "_law_number" s__law_number f fd) (hb : Binds K fd ["word"] []) (hg : mg "_law_number" = some (.ref f)) :
    FnD P w K mg base f "_law_number" 2 1 (F__law_number) := by
  refine fnD_of (m := m__law_number) F sc__law_number hb hg rfl (fun cdv A0 outer s H E hr => ?_)
  have nd : N__law_number.Nodup := sc__law_number.nd
  exact ⟨_, (b_cons (s_if (t_w (w_or (t_cmp (c_eq hr (K := K)) (j_var 0) j_str) (w_or (t_cmp c_gt (j_cb (b_len (K := K)) T.b_len (a_cons (j_var 0) a_nil)) j_int) (w_or (t_cmp (c_ne hr (K := K)) (j_f (f_lc (own := [("sign", 1)]) nd (by exact (i_any (K := K) (j_var 0))) (by exact blkOk_by (N := N__law_number) (sc := defScope s__law_number) (by decide +kernel)) (by exact fun _ _ _ _ _ => (g_name 1 nd)) (by exact fun _ _ _ _ _ => (ts_one (t_cmp (c_nin hr (K := K)) (j_var 1) j_str))) (by exact fun _ _ _ _ _ => (j_var 1)))) (j_f (f_lst a_nil))) (w_or1 (t_w (w_and (t_cmp c_gt (j_cb (b_len (K := K)) T.b_len (a_cons (j_var 0) a_nil)) j_int) (w_and1 (t_cmp (c_eq hr (K := K)) (j_ix (K := K) (j_var 0) j_int) j_str))))))))) (b_one (s_ret j_non)) b_nil) (b_one (s_ret (j_ct b_int T.b_int (a_cons (j_var 0) a_nil)))))⟩

abbrev s__law_place_told : Stmt := topS 28
abbrev N__law_place_told : List Str := ["word", "found", "one"]
theorem sc__law_place_told : FnScope N__law_place_told ["word"] (defScope s__law_place_told) := ⟨rfl, rfl, rfl, by decide +kernel, rfl, by decide +kernel, by decide +kernel⟩
def m__law_place_told : MS := (mSeq (mIfS (mTest (mOp eqD (mVar 0) (mC (.str ".")))) (mRet (mTup mNil)) mNext) (mSeq (mAsg 1 (mLst (mLc (mItems (mMeth splitD (mVar 0) (mCons (mC (.str ".")) mNil))) (gN 2) mYes (mCall F__law_number (mCons (mVar 2) mNil)) [2]))) (mSeq (mIfS (mTest (mOp inD (mC .non) (mVar 1))) (mRet (mC .non)) mNext) (mRet (mCall tupleD (mCons (mVar 1) mNil))))))
def F__law_place_told : List D → Option D := runF N__law_place_told 1 (m__law_place_told)
theorem fn__law_place_told (T : Tx K mg) {f : Addr} {fd : FuncData} (F : Fun K "_law_place_told" "_law_place_told" s__law_place_told f fd) (hb : Binds K fd ["word"] []) (hg : mg "_law_place_told" = some (.ref f)) {b__law_number : Addr} (C__law_number : FnD P w K mg base b__law_number "_law_number" 2 1 F__law_number) :
    FnD P w K mg base f "_law_place_told" 3 1 (F__law_place_told) := by
  refine fnD_of (m := m__law_place_told) F sc__law_place_told hb hg rfl (fun cdv A0 outer s H E hr => ?_)
  have nd : N__law_place_told.Nodup := sc__law_place_told.nd
  exact ⟨_, (b_cons (s_if (t_cmp (c_eq hr (K := K)) (j_var 0) j_str) (b_one (s_ret (j_tup a_nil))) b_nil) (b_cons (s_setLc (own := [("one", 2)]) 1 nd (by exact (i_any (K := K) (j_bm (K := K) (m_split (K := K)) (j_var 0) (a_cons j_str a_nil)))) (by exact blkOk_by (N := N__law_place_told) (sc := defScope s__law_place_told) (by decide +kernel)) (by exact fun _ _ _ _ _ => (g_name 2 nd)) (by exact fun _ _ _ _ _ => ts_nil) (by exact fun _ _ _ _ _ => (j_call (K := K) C__law_number hr (a_cons (j_var 2) a_nil)))) (b_cons (s_if (t_cmp (c_in hr (K := K)) j_non (j_var 1)) (b_one (s_ret j_non)) b_nil) (b_one (s_ret (j_ct (b_tuple (K := K)) T.b_tuple (a_cons (j_var 1) a_nil)))))))⟩

abbrev s__law_rising : Stmt := topS 30
abbrev N__law_rising : List Str := ["keys", "k"]
theorem sc__law_rising : FnScope N__law_rising ["keys"] (defScope s__law_rising) := ⟨rfl, rfl, rfl, by decide +kernel, rfl, by decide +kernel, by decide +kernel⟩
def m__law_rising : MS := (mRet (mOp ixD (mOp addD (mLst (mLc (mRange2 (mCons (mC (.int 1)) (mCons (mCall lenD (mCons (mVar 0) mNil)) mNil))) (gN 1) (mTest (mOp leD (mOp ixD (mVar 0) (mVar 1)) (mOp ixD (mVar 0) (mOp subD (mVar 1) (mC (.int 1)))))) (mVar 1) [1])) (mLst (few (mCons (mC .non) mNil)))) (mC (.int 0))))
def F__law_rising : List D → Option D := runF N__law_rising 1 (m__law_rising)
theorem fn__law_rising (T : Tx K mg) {f : Addr} {fd : FuncData} (F : Fun K "_law_rising" "_law_rising" s__law_rising f fd) (hb : Binds K fd ["keys"] []) (hg : mg "_law_rising" = some (.ref f)) :
    FnD P w K mg base f "_law_rising" 2 1 (F__law_rising) := by
  refine fnD_of (m := m__law_rising) F sc__law_rising hb hg rfl (fun cdv A0 outer s H E hr => ?_)
  have nd : N__law_rising.Nodup := sc__law_rising.nd
  exact ⟨_, (b_one (s_ret (j_ix (K := K) (j_add (K := K) (j_f (f_lc (own := [("k", 1)]) nd (by exact (i_range2 T.b_range (a_cons j_int (a_cons (j_cb (b_len (K := K)) T.b_len (a_cons (j_var 0) a_nil)) a_nil)))) (by exact blkOk_by (N := N__law_rising) (sc := defScope s__law_rising) (by decide +kernel)) (by exact fun _ _ _ _ _ => (g_name 1 nd)) (by exact fun _ _ _ _ _ => (ts_one (t_cmp (c_le hr (K := K)) (j_ix (K := K) (j_var 0) (j_var 1)) (j_ix (K := K) (j_var 0) (j_sub (j_var 1) j_int))))) (by exact fun _ _ _ _ _ => (j_var 1)))) (j_f (f_lst (a_cons j_non a_nil)))) j_int)))⟩

abbrev s__law_note : Stmt := topS 31
abbrev N__law_note : List Str := ["kind", "text", "e"]
theorem sc__law_note : FnScope N__law_note ["kind", "text"] (defScope s__law_note) := ⟨rfl, rfl, rfl, by decide +kernel, rfl, by decide +kernel, by decide +kernel⟩
def m__law_note (c_BadLine : Addr) (f_read_places : Addr) (f_read_place : Addr) (TX : Addr → Option (List D → Option Res)) : MS := (mNote 2 c_BadLine "line" "bad" (mCallV TX (mOp ixD (mLst (few (mCons (mC (.ref f_read_place)) (mCons (mC (.ref f_read_places)) mNil)))) (mVar 0)) (mCons (mVar 1) mNil)))
def F__law_note (c_BadLine : Addr) (f_read_places : Addr) (f_read_place : Addr) (TX : Addr → Option (List D → Option Res)) : List D → Option D := runF N__law_note 2 (m__law_note c_BadLine f_read_places f_read_place TX)
theorem fn__law_note (T : Tx K mg) {f : Addr} {fd : FuncData} (F : Fun K "_law_note" "_law_note" s__law_note f fd) (hb : Binds K fd ["kind", "text"] []) (hg : mg "_law_note" = some (.ref f)) {c_BadLine : Addr} {f_read_places : Addr} {f_read_place : Addr} {TX : Addr → Option (List D → Option Res)} (g_read_places : mg "read_places" = some (.ref f_read_places)) (g_read_place : mg "read_place" = some (.ref f_read_place)) (AX : ∀ f F, TX f = some F → HeldX P w K mg base 19 1 f F) {c_BadText : Addr} (Z_BadLine : ErrF K mg "BadLine" c_BadLine "line") (g_BadText : mg "BadText" = some (.ref c_BadText)) (k_BadLine_BadText : PySem.W.kitOne K (.ref c_BadLine) (.ref c_BadText) = some false) :
    FnD P w K mg base f "_law_note" 20 2 (F__law_note c_BadLine f_read_places f_read_place TX) := by
  refine fnD_of (m := m__law_note c_BadLine f_read_places f_read_place TX) F sc__law_note hb hg rfl (fun cdv A0 outer s H E hr => ?_)
  have nd : N__law_note.Nodup := sc__law_note.nd
  exact ⟨_, (b_one (s_note (K := K) (C := c_BadLine) (C2 := c_BadText) (f := "line") (z1 := "mixed") (z2 := "bad") (i := 2) rfl rfl rfl nd rfl rfl ⟨rfl, by decide, .inl Z_BadLine.g⟩ takes0 (fun W pn xe tk => by exact (x_callV 1 (K := K) AX (hr.mono (by decide)) tk (j_ix (K := K) (j_f (f_lst (a_cons (j_glob (v := .ref f_read_place) ⟨_, g_read_place, rfl⟩) (a_cons (j_glob (v := .ref f_read_places) ⟨_, g_read_places, rfl⟩) a_nil)))) (j_var 0)) (a_cons (j_var 1) a_nil))) (fun a oe cls d pn hz hf => by exact pss_cons (ps_if (pt_val (pe_callB (call_isX Z_BadLine.c hz hf) rfl T.b_isinstance (by decide +kernel) (by exact pa_cons (pv 2) (pa_cons (pe_glob rfl g_BadText rfl) pa_nil)))) (pss_one (ps_ret pe_str)) pss_nil) (pss_one (ps_ret (pe_tup (by exact pa_cons pe_str (pa_cons (pe_xf Z_BadLine.xf Z_BadLine.no hz hf (pv 2)) pa_nil)))))) Z_BadLine.exm k_BadLine_BadText))⟩

abbrev s__law_due : Stmt := topS 32
abbrev N__law_due : List Str := ["kind", "text", "found", "line", "told", "word"]
theorem sc__law_due : FnScope N__law_due ["kind", "text"] (defScope s__law_due) := ⟨rfl, rfl, rfl, by decide +kernel, rfl, by decide +kernel, by decide +kernel⟩
def m__law_due : MS := (mSeq (mIfS (mAnd (mTest (mOp eqD (mVar 0) (mC (.int 1)))) (mTest (mOp eqD (mVar 1) (mC (.str ""))))) (mRet (mLst (few mNil))) mNext) (mSeq (mAsgO 2 (few mNil)) (mSeq (mFor (mItems (mMeth splitD (mVar 1) (mCons (mC (.str "\n")) mNil))) (gN 3) (mSeq (mAsg 4 (mLst (mLc (mItems (mMeth splitD (mVar 3) (mCons (mC (.str " ")) mNil))) (gN 5) mYes (mCall F__law_place_told (mCons (mVar 5) mNil)) [5]))) (mSeq (mIfS (mOr (mTest (mOp inD (mC .non) (mVar 4))) (mOr (mAnd (mTest (mOp eqD (mVar 0) (mC (.int 0)))) (mTest (mOp gtD (mCall lenD (mCons (mVar 4) mNil)) (mC (.int 1))))) (mTest (mOp notND (mCall F__law_rising (mCons (mVar 4) mNil)) (mC .non))))) (fun ρ => (mRet (mTup (mCons (mC (.str "bad")) (mCons (mCall lenD (mCons (mVar 2) mNil)) mNil)))) (frz 2 ρ)) mNext) (mApp 2 (mOp ixD (mLst (few (mCons (mVar 4) (mCons (mOp ixD (mVar 4) (mC (.int 0))) mNil)))) (mCall intF (mCons (mOp eqD (mVar 0) (mC (.int 0))) mNil))))))) (fun ρ => (mSeq (mIfS (mTest (mOp gtD (mCall lenD (mCons (mVar 2) mNil)) (mC (.int 1)))) (mRet (mTup (mCons (mC (.str "bad")) (mCons (mC (.int 1)) mNil)))) mNext) (mRet (mOp ixD (mVar 2) (mC (.int 0))))) (frz 2 ρ)))))
def F__law_due : List D → Option D := runF N__law_due 2 (m__law_due)
theorem fn__law_due (T : Tx K mg) {f : Addr} {fd : FuncData} (F : Fun K "_law_due" "_law_due" s__law_due f fd) (hb : Binds K fd ["kind", "text"] []) (hg : mg "_law_due" = some (.ref f)) {b__law_place_told : Addr} (C__law_place_told : FnD P w K mg base b__law_place_told "_law_place_told" 3 1 F__law_place_told) {b__law_rising : Addr} (C__law_rising : FnD P w K mg base b__law_rising "_law_rising" 2 1 F__law_rising) :
    FnD P w K mg base f "_law_due" 4 2 (F__law_due) := by
  refine fnD_of (m := m__law_due) F sc__law_due hb hg rfl (fun cdv A0 outer s H E hr => ?_)
  have nd : N__law_due.Nodup := sc__law_due.nd
  exact ⟨_, (b_cons (s_if (t_w (w_and (t_cmp (c_eq hr (K := K)) (j_var 0) j_int) (w_and1 (t_cmp (c_eq hr (K := K)) (j_var 1) j_str)))) (b_one (s_ret (j_f (f_lst a_nil)))) b_nil) (b_cons (s_setO 2 nd (f_lst a_nil)) (b_cons (s_for PassesOwn.never (i_any (K := K) (j_bm (K := K) (m_split (K := K)) (j_var 1) (a_cons j_str a_nil))) (g_name 3 nd) (b_cons (s_setLc (own := [("word", 5)]) 4 nd (by exact (i_any (K := K) (j_bm (K := K) (m_split (K := K)) (j_var 3) (a_cons j_str a_nil)))) (by exact blkOk_by (N := N__law_due) (sc := defScope s__law_due) (by decide +kernel)) (by exact fun _ _ _ _ _ => (g_name 5 nd)) (by exact fun _ _ _ _ _ => ts_nil) (by exact fun _ _ _ _ _ => (j_call (K := K) C__law_place_told hr (a_cons (j_var 5) a_nil)))) (b_cons (s_if (t_w (w_or (t_cmp (c_in hr (K := K)) j_non (j_var 4)) (w_or (t_w (w_and (t_cmp (c_eq hr (K := K)) (j_var 0) j_int) (w_and1 (t_cmp c_gt (j_cb (b_len (K := K)) T.b_len (a_cons (j_var 4) a_nil)) j_int)))) (w_or1 (t_cmp c_isnot (j_call (K := K) C__law_rising hr (a_cons (j_var 4) a_nil)) j_non))))) (b_one (s_frz 2 (s_ret (j_tup (a_cons j_str (a_cons (j_cb (b_len (K := K)) T.b_len (a_cons (j_var 2) a_nil)) a_nil)))))) b_nil) (b_one (s_app (K := K) 2 (j_ix (K := K) (j_f (f_lst (a_cons (j_var 4) (a_cons (j_ix (K := K) (j_var 4) j_int) a_nil)))) (j_ct b_int T.b_int (a_cons (j_cmp (c_eq hr (K := K)) (j_var 0) j_int) a_nil)))))))) (b_frz 2 (b_cons (s_if (t_cmp c_gt (j_cb (b_len (K := K)) T.b_len (a_cons (j_var 2) a_nil)) j_int) (b_one (s_ret (j_tup (a_cons j_str (a_cons j_int a_nil))))) b_nil) (b_one (s_ret (j_ix (K := K) (j_var 2) j_int))))))))⟩

end
end K85

set_option Elab.async false
set_option linter.all false
set_option maxRecDepth 100000
set_option maxHeartbeats 8000000
namespace K85
open PySem PySem.Spec PyProof.Rows L2 Evl DD
section
variable {P : Program} {w : World} {K : PySem.W.Frag} {mg : Str → Option Value} {base : Heap}
abbrev s__law_texts : Stmt := topS 26
abbrev N__law_texts : List Str := ["text", "numbers", "pieces", "lines", "at", "line", "spot", "sign", "words", "word", "found", "bent", "other"]
theorem sc__law_texts : FnScope N__law_texts ["text", "numbers", "pieces"] (defScope s__law_texts) := ⟨rfl, rfl, rfl, by decide +kernel, rfl, by decide +kernel, by decide +kernel⟩
def m__law_texts : MS := (mSeq (mAsg 3 (mMeth splitD (mVar 0) (mCons (mC (.str "\n")) mNil))) (mSeq (mAsg 4 (mOp modD (mOp ixLD (mVar 1) (mC (.int 0))) (mCall lenKD (mCons (mVar 3) mNil)))) (mSeq (mAsg 5 (mOp ixLD (mVar 3) (mVar 4))) (mSeq (mAsg 6 (mOp modD (mOp ixLD (mVar 1) (mC (.int 1))) (mOp addK (mCall lenKD (mCons (mVar 5) mNil)) (mC (.int 1))))) (mSeq (mAsg 7 (mOp ixLD (mVar 2) (mOp modD (mOp ixLD (mVar 1) (mC (.int 2))) (mCall lenKD (mCons (mVar 2) mNil))))) (mSeq (mAsg 8 (mMeth splitD (mVar 5) (mCons (mC (.str " ")) mNil))) (mSeq (mAsg 9 (mOp ixLD (mVar 8) (mOp modD (mOp ixLD (mVar 1) (mC (.int 1))) (mCall lenKD (mCons (mVar 8) mNil))))) (mSeq (mAsgO 10 (few (mCons (mVar 0) (mCons (mOp addK (mVar 0) (mC (.str "\n"))) (mCons (mOp addK (mC (.str "\n")) (mVar 0)) (mCons (mOp addK (mVar 0) (mC (.str " "))) (mCons (mOp addK (mC (.str " ")) (mVar 0)) (mCons (mC (.str "")) (mCons (mOp addK (mOp addK (mVar 0) (mC (.str "\n"))) (mVar 5)) (mCons (mVar 5) (mCons (mMeth repD (mVar 0) (mCons (mC (.str " ")) (mCons (mC (.str "  ")) (mCons (mC (.int 1)) mNil)))) (mCons (mMeth joinD (mC (.str "\n")) (mCons (mRev (mVar 3)) mNil)) mNil)))))))))))) (mSeq (mAsg 11 (mLst (few (mCons (mOp addK (mOp addK (mSl slKD (mVar 5) mNoPart (mPart (mVar 6))) (mVar 7)) (mSl slKD (mVar 5) (mPart (mVar 6)) mNoPart)) (mCons (mOp addK (mOp addK (mSl slKD (mVar 5) mNoPart (mPart (mVar 6))) (mVar 7)) (mSl slKD (mVar 5) (mPart (mOp addK (mVar 6) (mC (.int 1)))) mNoPart)) (mCons (mOp addK (mSl slKD (mVar 5) mNoPart (mPart (mVar 6))) (mSl slKD (mVar 5) (mPart (mOp addK (mVar 6) (mC (.int 1)))) mNoPart)) (mCons (mMeth joinD (mC (.str " ")) (mCons (mRev (mVar 8)) mNil)) (mCons (mMeth joinD (mC (.str " ")) (mCons (mSl slKD (mVar 8) mNoPart (mPart (mUn negD (mC (.int 1))))) mNil)) mNil)))))))) (mSeq (mAsg 11 (mOp addK (mVar 11) (mLst (few (mCons (mMeth joinD (mC (.str " ")) (mCons (mSl slKD (mVar 8) (mPart (mC (.int 1))) mNoPart) mNil)) (mCons (mOp addK (mOp addK (mVar 5) (mC (.str " "))) (mVar 9)) (mCons (mOp addK (mOp addK (mVar 9) (mC (.str " "))) (mVar 5)) (mCons (mMeth repD (mVar 5) (mCons (mVar 9) (mCons (mVar 7) (mCons (mC (.int 1)) mNil)))) (mCons (mMeth repD (mVar 5) (mCons (mVar 9) (mCons (mOp catSD (mVar 9) (mC (.str "1"))) (mCons (mC (.int 1)) mNil)))) (mCons (mMeth repD (mVar 5) (mCons (mVar 9) (mCons (mOp catSD (mC (.str "0")) (mVar 9)) (mCons (mC (.int 1)) mNil)))) mNil)))))))))) (mSeq (mFor (mItems (mVar 11)) (gN 12) (mApp 10 (mMeth joinD (mC (.str "\n")) (mCons (mOp addD (mOp addD (mSl slD (mVar 3) mNoPart (mPart (mVar 4))) (mLst (few (mCons (mVar 12) mNil)))) (mSl slD (mVar 3) (mPart (mOp addD (mVar 4) (mC (.int 1)))) mNoPart)) mNil)))) (fun ρ => (mRet (mOp addD (mVar 10) (mLst (few (mCons (mMeth joinD (mC (.str "\n")) (mCons (mOp addD (mSl slD (mVar 3) mNoPart (mPart (mVar 4))) (mSl slD (mVar 3) (mPart (mOp addD (mVar 4) (mC (.int 1)))) mNoPart)) mNil)) (mCons (mMeth joinD (mC (.str "\n")) (mCons (mOp addD (mOp addD (mSl slD (mVar 3) mNoPart (mPart (mVar 4))) (mLst (few (mCons (mVar 5) mNil)))) (mSl slD (mVar 3) (mPart (mVar 4)) mNoPart)) mNil)) mNil)))))) (frz 10 ρ)))))))))))))
def F__law_texts : List D → Option D := runF N__law_texts 3 m__law_texts
abbrev P0 (B : Nat) : Nat → Nat → Prop := fun _ t => 1 ≤ t ∧ t < B
abbrev P2 (B T : Nat) : Nat → Nat → Prop := fun _ t => B ≤ t ∧ t < T
abbrev Pw (B T : Nat) : Nat → Nat → Prop := fun n t => 1 ≤ t ∧ (t < B ∨ T ≤ t) ∧ t < n
theorem fn__law_texts (T : Tx K mg) (nb : PySem.W.nsIn K cStatics sharingNotToldKey = some none) {f : Addr} {fd : FuncData} (F : Fun K "_law_texts" "_law_texts" s__law_texts f fd) (hb : Binds K fd ["text", "numbers", "pieces"] []) (hg : mg "_law_texts" = some (.ref f)) {B T0 : Nat} (h1B : 1 ≤ B) (hB : B ≤ T0) :
    FnZ P w K mg base f "_law_texts" 3 ["text", "numbers", "pieces"] T0 [⟨"text", false, P0 B⟩, ⟨"pieces", true, P2 B T0⟩] F__law_texts := by
  have nd : N__law_texts.Nodup := sc__law_texts.nd
  have h1T : 1 ≤ T0 := Nat.le_trans h1B hB
  have mP0 : ∀ n n' t, n ≤ n' → P0 B n t → P0 B n' t := fun _ _ _ _ h => h
  have mP2 : ∀ n n' t, n ≤ n' → P2 B T0 n t → P2 B T0 n' t := fun _ _ _ _ h => h
  have mPw : ∀ n n' t, n ≤ n' → Pw B T0 n t → Pw B T0 n' t := fun _ _ _ l h => ⟨h.1, h.2.1, Nat.lt_of_lt_of_le h.2.2 l⟩
  have h0w : ∀ n t, T0 ≤ n → P0 B n t → Pw B T0 n t := fun n t l h => ⟨h.1, .inl h.2, by have := h.2; omega⟩
  have hF : ∀ n n' t, T0 ≤ n → n ≤ t → t < n' → Pw B T0 n' t := fun n n' t a b c => ⟨by omega, .inr (by omega), c⟩
  have hd : ∀ n t u, Pw B T0 n t → P2 B T0 n u → t ≠ 0 ∧ u ≠ 0 ∧ t ≠ u := fun n t u a b => ⟨by have := a.1; omega, by have := b.1; omega, by have := a.2.1; have := b.1; have := b.2; omega⟩
  have hPw : ∀ n t, Pw B T0 n t → t ≠ 0 ∧ t < n := fun n t a => ⟨by have := a.1; omega, a.2.2⟩
  have mo0 : Mono ([] : List Fact) := fun f hf => absurd hf (by simp)
  have moc : ∀ {x : Str} {L : Bool} {Q : Nat → Nat → Prop} {τ : List Fact}, (∀ n n' t, n ≤ n' → Q n t → Q n' t) → Mono τ → Mono (⟨x, L, Q⟩ :: τ) := fun {x L Q τ} h m f hf => by
    rcases List.mem_cons.mp hf with e | hf
    · subst e
      exact h
    · exact m f hf
  have mo2 : Mono [⟨"text", false, P0 B⟩, ⟨"pieces", true, P2 B T0⟩] := moc mP0 (moc mP2 mo0)
  have mo3 : Mono [⟨"lines", true, Pw B T0⟩, ⟨"text", false, P0 B⟩, ⟨"pieces", true, P2 B T0⟩] := moc mPw mo2
  have mo4 : Mono [⟨"line", false, Pw B T0⟩, ⟨"lines", true, Pw B T0⟩, ⟨"text", false, P0 B⟩, ⟨"pieces", true, P2 B T0⟩] := moc mPw mo3
  have mo5 : Mono [⟨"sign", false, P2 B T0⟩, ⟨"line", false, Pw B T0⟩, ⟨"lines", true, Pw B T0⟩, ⟨"text", false, P0 B⟩, ⟨"pieces", true, P2 B T0⟩] := moc mP2 mo4
  have mo6 : Mono [⟨"words", true, Pw B T0⟩, ⟨"sign", false, P2 B T0⟩, ⟨"line", false, Pw B T0⟩, ⟨"lines", true, Pw B T0⟩, ⟨"text", false, P0 B⟩, ⟨"pieces", true, P2 B T0⟩] := moc mPw mo5
  have mo7 : Mono [⟨"word", false, Pw B T0⟩, ⟨"words", true, Pw B T0⟩, ⟨"sign", false, P2 B T0⟩, ⟨"line", false, Pw B T0⟩, ⟨"lines", true, Pw B T0⟩, ⟨"text", false, P0 B⟩, ⟨"pieces", true, P2 B T0⟩] := moc mPw mo6
  refine fnZ_of (m := m__law_texts) mo2 F sc__law_texts hb hg (by decide +kernel) (fun cdv A0 outer s H E hr => ?_)
  have J : JPB (cxOf CX0 P w K mg base N__law_texts "_law_texts" (defScope s__law_texts) f cdv A0 outer s H E).nox T0 [⟨"text", false, P0 B⟩, ⟨"pieces", true, P2 B T0⟩] W0 (defBody s__law_texts) _ m__law_texts :=
    (pb_z (zs_split (P' := Pw B T0) (τ := [⟨"text", false, P0 B⟩, ⟨"pieces", true, P2 B T0⟩]) 3 0 mo2 mPw List.mem_cons_self h0w hF nd (by exact (by decide : ("lines" : Str) ∉ (["text", "pieces"] : List Str))) (K := K)) (pb_z (zs_set (τ := [⟨"lines", true, Pw B T0⟩, ⟨"text", false, P0 B⟩, ⟨"pieces", true, P2 B T0⟩]) 4 mo3 nd (n_of (k_mod (k_ix (K := K) (k_var 1) k_int) (k_len T.b_len (k_var 3)))) (by exact (by decide : ("at" : Str) ∉ (["lines", "text", "pieces"] : List Str)))) (pb_z (zs_ix (P' := Pw B T0) (τ := [⟨"lines", true, Pw B T0⟩, ⟨"text", false, P0 B⟩, ⟨"pieces", true, P2 B T0⟩]) 5 3 mo3 mPw List.mem_cons_self (fun _ _ _ h => h) nd (k_var 4) (by exact (by decide : ("line" : Str) ∉ (["lines", "text", "pieces"] : List Str))) (K := K)) (pb_z (zs_set (τ := [⟨"line", false, Pw B T0⟩, ⟨"lines", true, Pw B T0⟩, ⟨"text", false, P0 B⟩, ⟨"pieces", true, P2 B T0⟩]) 6 mo4 nd (n_of (k_mod (k_ix (K := K) (k_var 1) k_int) (k_add (K := K) (k_len T.b_len (k_var 5)) k_int))) (by exact (by decide : ("spot" : Str) ∉ (["line", "lines", "text", "pieces"] : List Str)))) (pb_z (zs_ix (P' := P2 B T0) (τ := [⟨"line", false, Pw B T0⟩, ⟨"lines", true, Pw B T0⟩, ⟨"text", false, P0 B⟩, ⟨"pieces", true, P2 B T0⟩]) 7 2 mo4 mP2 (List.mem_cons_of_mem _ (List.mem_cons_of_mem _ (List.mem_cons_of_mem _ List.mem_cons_self))) (fun _ _ _ h => h) nd (k_mod (k_ix (K := K) (k_var 1) k_int) (k_len T.b_len (k_var 2))) (by exact (by decide : ("sign" : Str) ∉ (["line", "lines", "text", "pieces"] : List Str))) (K := K)) (pb_z (zs_split (P' := Pw B T0) (τ := [⟨"sign", false, P2 B T0⟩, ⟨"line", false, Pw B T0⟩, ⟨"lines", true, Pw B T0⟩, ⟨"text", false, P0 B⟩, ⟨"pieces", true, P2 B T0⟩]) 8 5 mo5 mPw (List.mem_cons_of_mem _ List.mem_cons_self) (fun _ _ _ h => h) hF nd (by exact (by decide : ("words" : Str) ∉ (["sign", "line", "lines", "text", "pieces"] : List Str))) (K := K)) (pb_z (zs_ix (P' := Pw B T0) (τ := [⟨"words", true, Pw B T0⟩, ⟨"sign", false, P2 B T0⟩, ⟨"line", false, Pw B T0⟩, ⟨"lines", true, Pw B T0⟩, ⟨"text", false, P0 B⟩, ⟨"pieces", true, P2 B T0⟩]) 9 8 mo6 mPw List.mem_cons_self (fun _ _ _ h => h) nd (k_mod (k_ix (K := K) (k_var 1) k_int) (k_len T.b_len (k_var 8))) (by exact (by decide : ("word" : Str) ∉ (["words", "sign", "line", "lines", "text", "pieces"] : List Str))) (K := K)) (pb_z (zs_setO (τ := [⟨"word", false, Pw B T0⟩, ⟨"words", true, Pw B T0⟩, ⟨"sign", false, P2 B T0⟩, ⟨"line", false, Pw B T0⟩, ⟨"lines", true, Pw B T0⟩, ⟨"text", false, P0 B⟩, ⟨"pieces", true, P2 B T0⟩]) 10 mo7 nd (na_cons mo7 (n_of (k_var 0)) (na_cons mo7 (n_of (k_add (K := K) (k_var 0) k_str)) (na_cons mo7 (n_of (k_add (K := K) k_str (k_var 0))) (na_cons mo7 (n_of (k_add (K := K) (k_var 0) k_str)) (na_cons mo7 (n_of (k_add (K := K) k_str (k_var 0))) (na_cons mo7 (n_of k_str) (na_cons mo7 (n_of (k_add (K := K) (k_add (K := K) (k_var 0) k_str) (k_var 5))) (na_cons mo7 (n_of (k_var 5)) (na_cons mo7 (n_rep (K := K) nb mo7 (n_of (k_var 0)) (nr_const h1T)) (na_cons mo7 (n_of (k_join (K := K) k_str (ka_cons (k_rev (K := K) (k_var 3)) ka_nil))) na_nil)))))))))) (by exact (by decide : ("found" : Str) ∉ (["word", "words", "sign", "line", "lines", "text", "pieces"] : List Str)))) (pb_z (zs_set (τ := [⟨"word", false, Pw B T0⟩, ⟨"words", true, Pw B T0⟩, ⟨"sign", false, P2 B T0⟩, ⟨"line", false, Pw B T0⟩, ⟨"lines", true, Pw B T0⟩, ⟨"text", false, P0 B⟩, ⟨"pieces", true, P2 B T0⟩]) 11 mo7 nd (n_of (k_lst (ka_cons (k_add (K := K) (k_add (K := K) (k_sl (K := K) (k_var 5) ko_none (ko_some (k_var 6))) (k_var 7)) (k_sl (K := K) (k_var 5) (ko_some (k_var 6)) ko_none)) (ka_cons (k_add (K := K) (k_add (K := K) (k_sl (K := K) (k_var 5) ko_none (ko_some (k_var 6))) (k_var 7)) (k_sl (K := K) (k_var 5) (ko_some (k_add (K := K) (k_var 6) k_int)) ko_none)) (ka_cons (k_add (K := K) (k_sl (K := K) (k_var 5) ko_none (ko_some (k_var 6))) (k_sl (K := K) (k_var 5) (ko_some (k_add (K := K) (k_var 6) k_int)) ko_none)) (ka_cons (k_join (K := K) k_str (ka_cons (k_rev (K := K) (k_var 8)) ka_nil)) (ka_cons (k_join (K := K) k_str (ka_cons (k_sl (K := K) (k_var 8) ko_none (ko_some (k_neg k_int))) ka_nil)) ka_nil))))))) (by exact (by decide : ("bent" : Str) ∉ (["word", "words", "sign", "line", "lines", "text", "pieces"] : List Str)))) (pb_z (zs_set (τ := [⟨"word", false, Pw B T0⟩, ⟨"words", true, Pw B T0⟩, ⟨"sign", false, P2 B T0⟩, ⟨"line", false, Pw B T0⟩, ⟨"lines", true, Pw B T0⟩, ⟨"text", false, P0 B⟩, ⟨"pieces", true, P2 B T0⟩]) 11 mo7 nd (n_add (K := K) mo7 (n_of (k_var 11)) (n_lst (na_cons mo7 (n_of (k_join (K := K) k_str (ka_cons (k_sl (K := K) (k_var 8) (ko_some k_int) ko_none) ka_nil))) (na_cons mo7 (n_of (k_add (K := K) (k_add (K := K) (k_var 5) k_str) (k_var 9))) (na_cons mo7 (n_of (k_add (K := K) (k_add (K := K) (k_var 9) k_str) (k_var 5))) (na_cons mo7 (n_rep (K := K) nb mo7 (n_of (k_var 5)) (nr_names 9 7 List.mem_cons_self (List.mem_cons_of_mem _ (List.mem_cons_of_mem _ List.mem_cons_self)) hd)) (na_cons mo7 (n_rep (K := K) nb mo7 (n_of (k_var 5)) (nr_addR 9 List.mem_cons_self hPw)) (na_cons mo7 (n_rep (K := K) nb mo7 (n_of (k_var 5)) (nr_addL 9 List.mem_cons_self hPw)) na_nil)))))))) (by exact (by decide : ("bent" : Str) ∉ (["word", "words", "sign", "line", "lines", "text", "pieces"] : List Str)))) (pb_of (b_cons (s_for PassesOwn.never (i_any (K := K) (j_var 11)) (g_name 12 nd) (b_one (s_app (K := K) 10 (j_bm (K := K) (m_join (K := K)) j_str (a_cons (j_add (K := K) (j_add (K := K) (j_sl (K := K) (j_var 3) o_none (o_some (j_var 4))) (j_f (f_lst (a_cons (j_var 12) a_nil)))) (j_sl (K := K) (j_var 3) (o_some (j_add (K := K) (j_var 4) j_int)) o_none)) a_nil))))) (b_frz 10 (b_one (s_ret (j_add (K := K) (j_var 10) (j_f (f_lst (a_cons (j_bm (K := K) (m_join (K := K)) j_str (a_cons (j_add (K := K) (j_sl (K := K) (j_var 3) o_none (o_some (j_var 4))) (j_sl (K := K) (j_var 3) (o_some (j_add (K := K) (j_var 4) j_int)) o_none)) a_nil)) (a_cons (j_bm (K := K) (m_join (K := K)) j_str (a_cons (j_add (K := K) (j_add (K := K) (j_sl (K := K) (j_var 3) o_none (o_some (j_var 4))) (j_f (f_lst (a_cons (j_var 5) a_nil)))) (j_sl (K := K) (j_var 3) (o_some (j_var 4)) o_none)) a_nil)) a_nil))))))))))))))))))))
  exact ⟨_, J.p, J.m⟩


abbrev s__law_place_word : Stmt := topS 29
abbrev N__law_place_word : List Str := ["place", "index"]
theorem sc__law_place_word : FnScope N__law_place_word ["place"] (defScope s__law_place_word) := ⟨rfl, rfl, rfl, by decide +kernel, rfl, by decide +kernel, by decide +kernel⟩
def m__law_place_word : MS := mSeq (mIfS (mTest (mOp eqD (mVar 0) (mTup mNil))) (mRet (mC (.str "."))) mNext) (mRet (mMeth joinD (mC (.str ".")) (mCons (mLst (mLc (mItemsK (mVar 0)) (gN 1) mYes (mCall strD (mCons (mVar 1) mNil)) [1])) mNil)))
def F__law_place_word : List D → Option D := runF N__law_place_word 1 m__law_place_word
theorem fn__law_place_word (T : Tx K mg) {f : Addr} {fd : FuncData} (F : Fun K "_law_place_word" "_law_place_word" s__law_place_word f fd) (hb : Binds K fd ["place"] []) (hg : mg "_law_place_word" = some (.ref f)) :
    FnG P w K mg base f "_law_place_word" 2 1 F__law_place_word := by
  have nd : N__law_place_word.Nodup := sc__law_place_word.nd
  refine fnG_of (m := m__law_place_word) F sc__law_place_word hb hg rfl (by decide +kernel) (fun cdv A0 outer s H E hr => ?_)
  have J : JGB (cxOf CX0 P w K mg base N__law_place_word "_law_place_word" (defScope s__law_place_word) f cdv A0 outer s H E).nox W0 (defBody s__law_place_word) _ m__law_place_word :=
    gb_if (t_cmp (c_eq hr (K := K)) (j_var 0) (j_tup a_nil)) (gb_ret (h_of (ν := []) g_str)) (gb_ret (h_joinLc (own := [("index", 1)]) (K := K) nd (by exact ki_seq (K := K) (k_var 0)) (by exact blkOk_by (N := N__law_place_word) (sc := defScope s__law_place_word) (by decide +kernel))
      (by exact fun _ _ _ _ _ => kg_name 1 nd) (by exact fun _ _ _ _ _ => g_strI T.b_str (k_var 1))))
  exact ⟨_, J.p, J.m⟩
end
end K85

set_option Elab.async false
set_option linter.all false
set_option maxRecDepth 100000
set_option maxHeartbeats 8000000
namespace K85
open PySem PySem.Spec PyProof.Rows L2 Evl DD
section
variable {P : Program} {w : World} {K : PySem.W.Frag} {mg : Str → Option Value} {base : Heap}
abbrev s_law : Stmt := topS 33
abbrev N_law : List Str := ["script", "numbers", "rows", "k", "place", "first", "second", "pieces", "text", "turn", "changed", "kind", "j"]
theorem sc_law : FnScope N_law ["script"] (defScope s_law) := ⟨rfl, rfl, rfl, by decide +kernel, rfl, by decide +kernel, by decide +kernel⟩
def mRest_law (c_BadLine : Addr) (f_read_places : Addr) (f_read_place : Addr) (TX : Addr → Option (List D → Option Res)) : MS := (mSeq (mFor (mItemsL (mLst (few (mCons (mVar 5) (mCons (mVar 6) mNil))))) (gN 8) (mFor (mRange1 (mCons (mC (.int 5)) mNil)) (gN 9) (mFor (mItemsL (mCall F__law_texts (mCons (mVar 8) (mCons (mSl slKD (mVar 1) (mPart (mOp addK (mC (.int 44)) (mOp mulD (mC (.int 3)) (mVar 9)))) mNoPart) (mCons (mVar 7) mNil))))) (gN 10) (mFor (mItemsL (mLst (few (mCons (mC (.int 0)) (mCons (mC (.int 1)) mNil))))) (gN 11) (mIfS (mTest (mOp neKD (mCall (F__law_note c_BadLine f_read_places f_read_place TX) (mCons (mVar 11) (mCons (mVar 10) mNil))) (mCall F__law_due (mCons (mVar 11) (mCons (mVar 10) mNil))))) (mRet (mC (.bl false))) mNext))))) (mSeq (mFor (mItems (mLst (few (mCons (mC (.str ".")) (mCons (mC (.str "0")) (mCons (mC (.str "0.0")) (mCons (mC (.str "00")) (mCons (mC (.str "0.")) (mCons (mC (.str ".0")) (mCons (mC (.str "..")) (mCons (mC (.str ". 0")) (mCons (mC (.str "0 .")) (mCons (mC (.str "0 0")) (mCons (mC (.str "0.1 0.0")) (mCons (mC (.str "0 0.0 1")) (mCons (mC (.str "1 0.9")) (mCons (mC (.str "999999")) (mCons (mC (.str "1000000")) (mCons (mC (.str "0\n1")) (mCons (mC (.str "0\nx")) (mCons (mC (.str "x\n0")) (mCons (mC (.str " ")) (mCons (mC (.str "-1")) (mCons (mC (.str "1 ")) (mCons (mC (.str "0. 1")) (mCons (mC (.str "2 10")) (mCons (mC (.str "10 2")) mNil))))))))))))))))))))))))))) (gN 8) (mFor (mItems (mLst (few (mCons (mC (.int 0)) (mCons (mC (.int 1)) mNil))))) (gN 11) (mIfS (mTest (mOp neD (mCall (F__law_note c_BadLine f_read_places f_read_place TX) (mCons (mVar 11) (mCons (mVar 8) mNil))) (mCall F__law_due (mCons (mVar 11) (mCons (mVar 8) mNil))))) (mRet (mC (.bl false))) mNext))) (mRet (mC (.bl true)))))
def m_law (c_BadLine : Addr) (f_read_places : Addr) (f_read_place : Addr) (TX : Addr → Option (List D → Option Res)) : MS := (mSeq (mAsg 1 (mCall F__law_numbers (mCons (mVar 0) (mCons (mC (.int 0)) (mCons (mC (.int 60)) mNil))))) (mSeq (mAsgO 2 (few mNil)) (mSeq (mFor (mRange1 (mCons (mOp addD (mC (.int 1)) (mOp modD (mOp ixD (mVar 1) (mC (.int 0))) (mC (.int 7)))) mNil)) (gN 3) (mSeq (mAsg 4 (mCall tupleD (mCons (mLst (mLc (mRange1 (mCons (mOp modD (mOp ixD (mVar 1) (mOp addD (mC (.int 6)) (mOp mulD (mC (.int 6)) (mVar 3)))) (mC (.int 5))) mNil)) (gN 12) mYes (mOp modD (mOp mulD (mOp ixD (mVar 1) (mOp addD (mOp addD (mC (.int 1)) (mOp mulD (mC (.int 6)) (mVar 3))) (mVar 12))) (mOp ixD (mLst (few (mCons (mC (.int 1)) (mCons (mC (.int 0)) (mCons (mC (.int 991)) mNil))))) (mOp modD (mOp ixD (mVar 1) (mOp addD (mC (.int 43)) (mVar 12))) (mC (.int 3))))) (mC (.int 1000000))) [12])) mNil))) (mIfS (fun ρ => (mTest (mOp ninD (mVar 4) (mVar 2))) (frz 2 ρ)) (mApp 2 (mVar 4)) mNext))) (fun ρ => (mSeq (mAsg 2 (mCall sortTD (mCons (mVar 2) mNil))) (mSeq (mPar 5 6 (mCons (mCall F__law_place_word (mCons (mOp ixLD (mVar 2) (mUn negD (mC (.int 1)))) mNil)) (mCons (mMeth joinD (mC (.str " ")) (mCons (mLst (mLc (mItemsK (mVar 2)) (gN 4) mYes (mCall F__law_place_word (mCons (mVar 4) mNil)) [4])) mNil)) mNil))) (mSeq (mIfS (mOr (mTest (mOp neKD (mCall F_show_place (mCons (mOp ixLD (mVar 2) (mUn negD (mC (.int 1)))) mNil)) (mVar 5))) (mOr (mTest (mOp neKD (mCall F_show_places (mCons (mCall listKD (mCons (mVar 2) mNil)) mNil)) (mVar 6))) (mTest (mOp neKD (mCall F_show_places (mCons (mLst (few mNil)) mNil)) (mC (.str "")))))) (mRet (mC (.bl false))) mNext) (mSeq (mIfS (mOr (mTest (mOp neKD (mCall (F__law_note c_BadLine f_read_places f_read_place TX) (mCons (mC (.int 0)) (mCons (mVar 5) mNil))) (mOp ixLD (mVar 2) (mUn negD (mC (.int 1)))))) (mOr (mTest (mOp neKD (mCall (F__law_note c_BadLine f_read_places f_read_place TX) (mCons (mC (.int 1)) (mCons (mVar 6) mNil))) (mVar 2))) (mNot (mTest (mCall isTupD (mCons (mCall (F__law_note c_BadLine f_read_places f_read_place TX) (mCons (mC (.int 0)) (mCons (mVar 5) mNil))) (mCons (mC (.ty "tuple")) mNil))))))) (mRet (mC (.bl false))) mNext) (mSeq (mAsg 7 (mLst (few (mCons (mC (.str ".")) (mCons (mC (.str "0")) (mCons (mC (.str " ")) (mCons (mC (.str "-")) (mCons (mC (.str "..")) (mCons (mC (.str "7")) (mCons (mC (.str "x")) (mCons (mC (.str "1.2")) (mCons (mC (.str "\n")) (mCons (mC (.str "00")) (mCons (mC (.str "1234567")) mNil)))))))))))))) (mRest_law c_BadLine f_read_places f_read_place TX)))))) (frz 2 ρ)))))
theorem walk_law (T : Tx K mg) {c_BadLine : Addr} {f_read_places : Addr} {f_read_place : Addr} {TX : Addr → Option (List D → Option Res)} {b__law_numbers : Addr} (C__law_numbers : FnD P w K mg base b__law_numbers "_law_numbers" 2 3 F__law_numbers) {b_show_place : Addr} (C_show_place : FnD P w K mg base b_show_place "show_place" 3 1 F_show_place) {b_show_places : Addr} (C_show_places : FnD P w K mg base b_show_places "show_places" 3 1 F_show_places) {b__law_due : Addr} (C__law_due : FnD P w K mg base b__law_due "_law_due" 4 2 F__law_due) {b__law_place_word : Addr} (C__law_place_word : FnG P w K mg base b__law_place_word "_law_place_word" 2 1 F__law_place_word) {b__law_note : Addr} (C__law_note : FnD P w K mg base b__law_note "_law_note" 20 2 (F__law_note c_BadLine f_read_places f_read_place TX)) {b__law_texts : Addr} (C__law_texts : ∀ B T0 : Nat, 1 ≤ B → B ≤ T0 → FnZ P w K mg base b__law_texts "_law_texts" 3 ["text", "numbers", "pieces"] T0 [⟨"text", false, P0 B⟩, ⟨"pieces", true, P2 B T0⟩] F__law_texts)
    {f : Addr} (cdv : Value) (A0 : Around) (outer : List Env) (s : Shared) (H : Hp) (E : XK) (hr : Room 20 (A0.deeper (envOfC "law" (defScope s_law) s.heap.objs.size f cdv))) :
    ∃ t, JPB (cxOf CX0 P w K mg base N_law "law" (defScope s_law) f cdv A0 outer s H E).nox 0 [] W0 (defBody s_law) t (m_law c_BadLine f_read_places f_read_place TX) := by
  have nd : N_law.Nodup := sc_law.nd
  have mo0 : Mono ([] : List Fact) := fun f hf => absurd hf (by simp)
  have moc : ∀ {x : Str} {L : Bool} {Q : Nat → Nat → Prop} {τ : List Fact}, (∀ n n' t, n ≤ n' → Q n t → Q n' t) → Mono τ → Mono (⟨x, L, Q⟩ :: τ) := fun {x L Q τ} h m f hf => by
    rcases List.mem_cons.mp hf with e | hf
    · subst e
      exact h
    · exact m f hf
  have mo2 : Mono [⟨"first", false, Pn⟩, ⟨"second", false, Pn⟩] := moc Pn.mono (moc Pn.mono mo0)
  have mP0 : ∀ B n n' t, n ≤ n' → P0 B n t → P0 B n' t := fun _ _ _ _ _ h => h
  have mP2 : ∀ B T0 n n' t, n ≤ n' → P2 B T0 n t → P2 B T0 n' t := fun _ _ _ _ _ _ h => h
  have moB : ∀ B, Mono ((["first", "second"] : List Str).map fun y => (⟨y, false, fun _ t => 1 ≤ t ∧ t < B⟩ : Fact)) := fun B => moc (fun _ _ _ _ h => h) (moc (fun _ _ _ _ h => h) mo0)
  have mF1 : ∀ B n n' t : Nat, n ≤ n' → (B ≤ t ∧ t < n) → (B ≤ t ∧ t < n') := fun B n n' t l h => ⟨h.1, Nat.lt_of_lt_of_le h.2 l⟩
  have hF1 : ∀ B n t : Nat, B ≤ t → t < n → (B ≤ t ∧ t < n) := fun B n t a b => ⟨a, b⟩
  have mo3 : ∀ B T0, Mono (⟨"pieces", true, fun _ t => B ≤ t ∧ t < T0⟩ :: (["first", "second"] : List Str).map fun y => (⟨y, false, fun _ t => 1 ≤ t ∧ t < B⟩ : Fact)) := fun B T0 => moc (fun _ _ _ _ h => h) (moc (fun _ _ _ _ h => h) (moc (fun _ _ _ _ h => h) mo0))
  have mF0 : ∀ B n n' t, n ≤ n' → P0 B n t → P0 B n' t := fun _ _ _ _ _ h => h
  have mo4 : ∀ B T0, Mono (⟨"text", false, P0 B⟩ :: ⟨"pieces", true, fun _ t => B ≤ t ∧ t < T0⟩ :: (["first", "second"] : List Str).map fun y => (⟨y, false, fun _ t => 1 ≤ t ∧ t < B⟩ : Fact)) := fun B T0 => moc (fun _ _ _ _ h => h) (mo3 B T0)
  have hf3 : ∀ B T0, (⟨"first", false, P0 B⟩ : Fact) ∈ (⟨"pieces", true, fun _ t => B ≤ t ∧ t < T0⟩ :: (["first", "second"] : List Str).map fun y => (⟨y, false, fun _ t => 1 ≤ t ∧ t < B⟩ : Fact)) := fun B T0 => List.mem_cons_of_mem _ List.mem_cons_self
  have hs3 : ∀ B T0, (⟨"second", false, P0 B⟩ : Fact) ∈ (⟨"pieces", true, fun _ t => B ≤ t ∧ t < T0⟩ :: (["first", "second"] : List Str).map fun y => (⟨y, false, fun _ t => 1 ≤ t ∧ t < B⟩ : Fact)) := fun B T0 => List.mem_cons_of_mem _ (List.mem_cons_of_mem _ List.mem_cons_self)
  have hx4 : ∀ B T0, (⟨"text", false, P0 B⟩ : Fact) ∈ (⟨"text", false, P0 B⟩ :: ⟨"pieces", true, fun _ t => B ≤ t ∧ t < T0⟩ :: (["first", "second"] : List Str).map fun y => (⟨y, false, fun _ t => 1 ≤ t ∧ t < B⟩ : Fact)) := fun B T0 => List.mem_cons_self
  have hz4 : ∀ B T0, (⟨"pieces", true, P2 B T0⟩ : Fact) ∈ (⟨"text", false, P0 B⟩ :: ⟨"pieces", true, fun _ t => B ≤ t ∧ t < T0⟩ :: (["first", "second"] : List Str).map fun y => (⟨y, false, fun _ t => 1 ≤ t ∧ t < B⟩ : Fact)) := fun B T0 => List.mem_cons_of_mem _ List.mem_cons_self
  exact ⟨_, (pb_first (K := K) 1 0 nd C__law_numbers hr (pb_p (s_setO 2 nd (f_lst a_nil)) (pb_p (s_for PassesOwn.never (i_range1 T.b_range (a_cons (j_add (K := K) j_int (j_mod (j_ix (K := K) (j_var 1) j_int) j_int)) a_nil)) (g_name 3 nd) (b_cons (s_set 4 nd (j_ct (b_tuple (K := K)) T.b_tuple (a_cons (j_f (f_lc (own := [("j", 12)]) nd (by exact (i_range1 T.b_range (a_cons (j_mod (j_ix (K := K) (j_var 1) (j_add (K := K) j_int (j_mul j_int (j_var 3)))) j_int) a_nil))) (by exact blkOk_by (N := N_law) (sc := defScope s_law) (by decide +kernel)) (by exact fun _ _ _ _ _ => (g_name 12 nd)) (by exact fun _ _ _ _ _ => ts_nil) (by exact fun _ _ _ _ _ => (j_mod (j_mul (j_ix (K := K) (j_var 1) (j_add (K := K) (j_add (K := K) j_int (j_mul j_int (j_var 3))) (j_var 12))) (j_ix (K := K) (j_f (f_lst (a_cons j_int (a_cons j_int (a_cons j_int a_nil))))) (j_mod (j_ix (K := K) (j_var 1) (j_add (K := K) j_int (j_var 12))) j_int))) j_int)))) a_nil))) (b_one (s_if (t_brw 2 (t_cmp (c_nin hr (K := K)) (j_var 4) (j_var 2))) (b_one (s_app (K := K) 2 (j_var 4))) b_nil)))) (pb_frz 2 (pb_p (s_set 2 nd (j_cb (b_sortT hr (K := K)) T.b_sorted (a_cons (j_var 2) a_nil))) (pb_z (zs_par 5 6 (Nat.le_refl _) nd (h_of (ν := []) (g_call (K := K) C__law_place_word hr (ka_cons (k_ix (K := K) (k_var 2) (k_neg k_int)) ka_nil))) (h_joinLc (own := [("place", 4)]) (K := K) nd (by exact ki_seq (K := K) (k_var 2)) (by exact blkOk_by (N := N_law) (sc := defScope s_law) (by decide +kernel)) (by exact fun _ _ _ _ _ => kg_name 4 nd) (by exact fun _ _ _ _ _ => g_call (K := K) C__law_place_word hr (ka_cons (k_var 4) ka_nil)))) (pb_n mo2 (ns_of (ks_if (kt_w (kw_or (kt_ne hr (k_call (K := K) C_show_place hr (ka_cons (k_ix (K := K) (k_var 2) (k_neg k_int)) ka_nil)) (k_var 5) (K := K)) (kw_or (kt_ne hr (k_call (K := K) C_show_places hr (ka_cons (k_list T.b_list (k_var 2)) ka_nil)) (k_var 6) (K := K)) (kw_or1 (kt_ne hr (k_call (K := K) C_show_places hr (ka_cons (k_lst ka_nil) ka_nil)) k_str (K := K)))))) (kb_one (ks_ret k_bl)) kb_nil)) (pb_n mo2 (ns_of (ks_if (kt_w (kw_or (kt_ne hr (k_call (K := K) C__law_note hr (ka_cons k_int (ka_cons (k_var 5) ka_nil))) (k_ix (K := K) (k_var 2) (k_neg k_int)) (K := K)) (kw_or (kt_ne hr (k_call (K := K) C__law_note hr (ka_cons k_int (ka_cons (k_var 6) ka_nil))) (k_var 2) (K := K)) (kw_or1 (kt_not (kt_val (k_isTup T.b_isinstance (ka_cons (k_call (K := K) C__law_note hr (ka_cons k_int (ka_cons (k_var 5) ka_nil))) (ka_cons (k_ty T.b_tuple) ka_nil)) (K := K)))))))) (kb_one (ks_ret k_bl)) kb_nil)) (pb_pieces (xs := ["first", "second"]) 7 (fun B h1B => (za_str (moB B) (mF1 B) (hF1 B) (za_str (moB B) (mF1 B) (hF1 B) (za_str (moB B) (mF1 B) (hF1 B) (za_str (moB B) (mF1 B) (hF1 B) (za_str (moB B) (mF1 B) (hF1 B) (za_str (moB B) (mF1 B) (hF1 B) (za_str (moB B) (mF1 B) (hF1 B) (za_str (moB B) (mF1 B) (hF1 B) (za_str (moB B) (mF1 B) (hF1 B) (za_str (moB B) (mF1 B) (hF1 B) (za_str (moB B) (mF1 B) (hF1 B) za_nil)))))))))))) (Nat.le_refl _) nd (fun B T0 h1B hBT => (pb_n (mo3 B T0) (ns_forZ (P := P0 B) 8 (mo3 B T0) (mF0 B) PassesOwn.never (za_name 5 (mo3 B T0) (mF0 B) (hf3 B T0) (fun _ _ _ h => h) (za_name 6 (mo3 B T0) (mF0 B) (hs3 B T0) (fun _ _ _ h => h) za_nil)) nd (nb_one (ns_for (mo4 B T0) PassesOwn.never (ni_of (ki_range1 T.b_range (ka_cons k_int ka_nil))) (kg_name 9 nd (by exact (by decide : ("turn" : Str) ∉ (["text", "pieces", "first", "second"] : List Str)))) (nb_one (ns_for (mo4 B T0) PassesOwn.never (ni_list (n_texts (K := K) (mo4 B T0) (C__law_texts B T0 h1B hBT) hr (hx4 B T0) (hz4 B T0) (k_sl (K := K) (k_var 1) (ko_some (k_add (K := K) k_int (k_mul k_int (k_var 9)))) ko_none)) (K := K)) (kg_name 10 nd (by exact (by decide : ("changed" : Str) ∉ (["text", "pieces", "first", "second"] : List Str)))) (nb_of (kb_one (ks_for PassesOwn.never (ki_list (k_lst (ka_cons k_int (ka_cons k_int ka_nil))) (K := K)) (kg_name 11 nd (by exact (by decide : ("kind" : Str) ∉ (["text", "pieces", "first", "second"] : List Str)))) (kb_one (ks_if (kt_ne hr (k_call (K := K) C__law_note hr (ka_cons (k_var 11) (ka_cons (k_var 10) ka_nil))) (k_call (K := K) C__law_due hr (ka_cons (k_var 11) (ka_cons (k_var 10) ka_nil))) (K := K)) (kb_one (ks_ret k_bl)) kb_nil))))))))) (by exact (by decide : ("text" : Str) ∉ (["pieces", "first", "second"] : List Str))) (K := K)) (pb_of (b_cons (s_for PassesOwn.never (i_any (K := K) (j_f (f_lst (a_cons j_str (a_cons j_str (a_cons j_str (a_cons j_str (a_cons j_str (a_cons j_str (a_cons j_str (a_cons j_str (a_cons j_str (a_cons j_str (a_cons j_str (a_cons j_str (a_cons j_str (a_cons j_str (a_cons j_str (a_cons j_str (a_cons j_str (a_cons j_str (a_cons j_str (a_cons j_str (a_cons j_str (a_cons j_str (a_cons j_str (a_cons j_str a_nil))))))))))))))))))))))))))) (g_name 8 nd) (b_one (s_for PassesOwn.never (i_any (K := K) (j_f (f_lst (a_cons j_int (a_cons j_int a_nil))))) (g_name 11 nd) (b_one (s_if (t_cmp (c_ne hr (K := K)) (j_call (K := K) C__law_note hr (a_cons (j_var 11) (a_cons (j_var 8) a_nil))) (j_call (K := K) C__law_due hr (a_cons (j_var 11) (a_cons (j_var 8) a_nil)))) (b_one (s_ret j_bl)) b_nil))))) (b_one (s_ret j_bl)))))))))))))))⟩
end
end K85

set_option Elab.async false
set_option linter.all false
set_option maxRecDepth 100000
set_option maxHeartbeats 4000000
namespace K85
open PySem PySem.Spec PyProof.Rows L2 Evl DD
/-! M1: words and numbers -/
abbrev tl (z : Str) : List Nat := z.cps.toList
def isDig (c : Nat) : Bool := decide (48 ≤ c) && decide (c ≤ 57)
def zeroAhead (z : Str) : Bool := decide (1 < z.length) && decide ((tl z).head? = some 48)
def isNum (z : Str) : Bool := decide (1 ≤ z.length) && decide (z.length ≤ 6) && (tl z).all isDig && !zeroAhead z
def numW (z : Str) : Option Int := if isNum z = true then intText? z else none
def optI : Option Int → D
  | none => .non
  | some i => .int i
theorem len_tl (z : Str) : z.length = (tl z).length := TL.len_tl z
theorem isDig_mem (c : Nat) : decide (c ∈ tl "0123456789") = isDig c := by
  show decide (c ∈ [48, 49, 50, 51, 52, 53, 54, 55, 56, 57]) = _
  unfold isDig
  rw [Bool.eq_iff_iff]
  simp only [List.mem_cons, List.not_mem_nil, or_false, decide_eq_true_eq, Bool.and_eq_true]
  omega
theorem one_cps (c : Nat) : (⟨#[c]⟩ : Str).cps.size = 1 := rfl
theorem mem_sign (c : Nat) : memD (.str ⟨#[c]⟩) (.str "0123456789") = some (isDig c) := by
  show (if (⟨#[c]⟩ : Str).cps.size = 1 then some (decide (c ∈ tl "0123456789")) else none) = _
  rw [isDig_mem]
  exact if_pos (one_cps c)
theorem intText_num {z : Str} (h : isNum z = true) : ∃ i : Int, intText? z = some i := by
  simp only [isNum, Bool.and_eq_true, decide_eq_true_eq] at h
  obtain ⟨⟨⟨h1, h2⟩, h3⟩, _⟩ := h
  refine ⟨_, intText_digits (x := z) (fun c hc => ?_) (fun e => ?_) (by omega)⟩
  · have := List.all_eq_true.mp h3 c hc
    simpa [isDig] using this
  · rw [len_tl, show tl z = [] from e] at h1
    simp at h1
/-- the signs of a text that are no digits -/
theorem lc_signs (ρ : DEnv) (hρ : ρ = [DE.un, DE.un] ∨ ∃ d, ρ = [DE.pu d, DE.un]) : ∀ l : List Nat, lcL (gN 1) mYes (mOp inD (mVar 1) (mC (.str "0123456789"))) ρ (l.map fun c => D.str ⟨#[c]⟩) = some (l.map fun c => D.bl (isDig c))
  | [] => rfl
  | c :: l => by
    have ih := lc_signs ρ hρ l
    have e : ∃ a, ρ = [a, DE.un] := by
      rcases hρ with h | ⟨d, h⟩
      · exact ⟨_, h⟩
      · exact ⟨_, h⟩
    obtain ⟨a, rfl⟩ := e
    show ((memD (.str ⟨#[c]⟩) (.str "0123456789")).map D.bl).bind (fun y => (lcL _ _ _ _ (l.map fun c => D.str ⟨#[c]⟩)).map (y :: ·)) = _
    rw [mem_sign, ih]
    rfl
theorem bls_signs : ∀ l : List Nat, blsD (l.map fun c => D.bl (isDig c)) = some (l.map isDig)
  | [] => rfl
  | c :: l => by simp [blsD, bls_signs l]
theorem big_eq : big = 16777216 := rfl
theorem head_str {z : Str} (h : 1 < z.length) (hb : z.length ≤ big) : ∃ c, (tl z).head? = some c ∧ ixD (.str z) (.int 0) = some (.str ⟨#[c]⟩) := by
  have hl : 1 < (tl z).length := by rw [← len_tl]; exact h
  have : ∃ c r, tl z = c :: r := by
    cases e : tl z with
    | nil => rw [e] at hl; simp at hl
    | cons c r => exact ⟨c, r, rfl⟩
  obtain ⟨c, r, e⟩ := this
  refine ⟨c, by rw [e]; rfl, ?_⟩
  show (if z.length ≤ big then (atI (tl z) 0).map fun c => D.str ⟨#[c]⟩ else none) = _
  rw [if_pos hb, e]
  unfold atI ixN
  simp
theorem one_eq (c d : Nat) : ((⟨#[c]⟩ : Str) = ⟨#[d]⟩) ↔ c = d := by simp
theorem zero_str : ("0" : Str) = ⟨#[48]⟩ := by decide
theorem eqD_str (x y : Str) : eqD (.str x) (.str y) = some (.bl (decide (x = y))) := by
  show some (D.bl (decide (V.str x = V.str y))) = _
  simp
theorem neD_str (x y : Str) : neD (.str x) (.str y) = some (.bl (!decide (x = y))) := by
  show some (D.bl (!decide (V.str x = V.str y))) = _
  simp
theorem lenD_str {z : Str} (hb : z.length ≤ big) : lenD [.str z] = some (.int (z.length : Int)) := if_pos hb
theorem intF_str {z : Str} (hb : z.length ≤ 640) : intF [.str z] = (intText? z).map .int := if_pos hb
theorem lc_all {ρ : DEnv} (e : ∃ a, ρ = [a, DE.un]) (z : Str) (hl : z.length ≤ 6) : (if (signsD z).length ≤ 10000000 then lcL (gN 1) mYes (mOp inD (mVar 1) (mC (.str "0123456789"))) ρ (signsD z) else none) = some ((tl z).map fun c => D.bl (isDig c)) := by
  have : (signsD z).length ≤ 10000000 := by
    have e : (signsD z).length = z.length := by simp [signsD, Str.length]
    omega
  rw [if_pos this]
  obtain ⟨a, rfl⟩ := e
  unfold signsD tl
  generalize z.cps.toList = l
  induction l with
  | nil => rfl
  | cons c l ih =>
    show ((memD (.str ⟨#[c]⟩) (.str "0123456789")).map D.bl).bind (fun y => (lcL _ _ _ _ (l.map fun c => D.str ⟨#[c]⟩)).map (y :: ·)) = _
    rw [mem_sign, ih]
    rfl
theorem ev_op {f : D → D → Option D} {ma mb : ME} {ρ : DEnv} {a b : D} (ha : ma ρ = some a) (hb : mb ρ = some b) : mOp f ma mb ρ = f a b := by
  unfold mOp
  rw [ha, hb]
  rfl
theorem ev_test {m : ME} {ρ : DEnv} {d : D} (h : m ρ = some d) : mTest m ρ = asB d := by
  unfold mTest
  rw [h]
  rfl
theorem ev_lst {m : MA} {ρ : DEnv} {ds : List D} (h : m ρ = some ds) : mLst m ρ = some (.lst ds) := by
  unfold mLst
  rw [h]
  rfl
/-- number_of -/
theorem m_number_str {z : Str} (hb : z.length ≤ big) : m_number_of [DE.pu (.str z), DE.un] = some (.rt (optI (numW z))) := by
  have e1 : mCall lenD (mCons (mVar 0) mNil) [DE.pu (.str z), DE.un] = some (.int (z.length : Int)) := lenD_str hb
  have c1 : mTest (mChain leD leD (mC (.int 1)) (mCall lenD (mCons (mVar 0) mNil)) (mC (.int 6))) [DE.pu (.str z), DE.un] = some (decide (1 ≤ z.length) && decide (z.length ≤ 6)) := by
    unfold mTest mChain
    rw [e1]
    by_cases h : 1 ≤ z.length
    · have h' : ((1 : Int) ≤ (z.length : Int)) := by omega
      simp only [mC, Option.bind_some, leD, ordD, asB, decide_eq_true h', decide_eq_true h, if_true, Bool.true_and]
      congr 1
      rw [Bool.eq_iff_iff]
      simp only [decide_eq_true_eq]
      omega
    · have h' : ¬ ((1 : Int) ≤ (z.length : Int)) := by omega
      simp [mC, leD, ordD, asB, h', h]
  have e2 : z.length ≤ 6 → mTru (mCall allD (mCons (mLst (mLc (mItems (mVar 0)) (gN 1) mYes (mOp inD (mVar 1) (mC (.str "0123456789"))) [1])) mNil)) [DE.pu (.str z), DE.un] = some ((tl z).all isDig) := fun hl => by
    have : mLc (mItems (mVar 0)) (gN 1) mYes (mOp inD (mVar 1) (mC (.str "0123456789"))) [1] [DE.pu (.str z), DE.un] = some ((tl z).map fun c => D.bl (isDig c)) := lc_all ⟨_, rfl⟩ z hl
    unfold mTru mCall mCons mLst
    rw [this]
    simp only [Option.map_some, Option.bind_some, mNil, allD, bls_signs]
    simp [truD, List.all_map]
  have e3 : mAnd (mTest (mOp gtD (mCall lenD (mCons (mVar 0) mNil)) (mC (.int 1)))) (mTest (mOp eqD (mOp ixD (mVar 0) (mC (.int 0))) (mC (.str "0")))) [DE.pu (.str z), DE.un] = some (zeroAhead z) := by
    unfold mAnd mTest mOp
    rw [e1]
    by_cases h : 1 < z.length
    · obtain ⟨c, hc, hx⟩ := head_str h hb
      have h' : ((1 : Int) < (z.length : Int)) := by omega
      have e : mVar 0 [DE.pu (.str z), DE.un] = some (.str z) := rfl
      simp only [mC, e, Option.bind_some, gtD, int2D, asB, hx, eqD_str, decide_eq_true h', if_true, zeroAhead, decide_eq_true h, hc, Bool.true_and]
      congr 1
      rw [Bool.eq_iff_iff, decide_eq_true_eq, decide_eq_true_eq, zero_str, one_eq]
      simp
    · have h' : ¬ ((1 : Int) < (z.length : Int)) := by omega
      simp [mC, gtD, int2D, asB, h', zeroAhead, h]
  unfold m_number_of mSeq mIfS mOr mNot
  rw [c1]
  by_cases h1 : (decide (1 ≤ z.length) && decide (z.length ≤ 6)) = true
  · have hl : z.length ≤ 6 := by simp at h1; exact h1.2
    rw [h1, e2 hl]
    by_cases h2 : (tl z).all isDig = true
    · rw [h2]
      simp only [Option.map_some, Option.bind_some, Bool.not_true, if_false, Bool.false_eq_true, mNext]
      unfold mRet mIf
      rw [e3]
      cases h3 : zeroAhead z with
      | true =>
        have : isNum z = false := by simp [isNum, h3]
        simp [mC, numW, this, optI]
      | false =>
        have : isNum z = true := by
          unfold isNum
          rw [h1, h2, h3]
          rfl
        obtain ⟨i, hi⟩ := intText_num this
        have e4 : mCall intF (mCons (mVar 0) mNil) [DE.pu (.str z), DE.un] = some (.int i) := by
          show intF [.str z] = _
          rw [intF_str (by omega), hi]
          rfl
        simp [e4, numW, this, hi, optI]
    · have h2' : (tl z).all isDig = false := by simpa using h2
      have : isNum z = false := by simp [isNum, h2']
      rw [h2']
      simp [mRet, mC, numW, this, optI]
  · have h1' : (decide (1 ≤ z.length) && decide (z.length ≤ 6)) = false := by simpa using h1
    have : isNum z = false := by
      unfold isNum
      rw [h1']
      rfl
    rw [h1']
    simp [mRet, mC, numW, this, optI]
theorem F_number_str {z : Str} (hb : z.length ≤ big) : F_number_of [.str z] = some (optI (numW z)) := by
  show (match m_number_of [DE.pu (.str z), DE.un] with
    | some (.rt d) => some d
    | some (.nx _) => some .non
    | _ => none) = _
  rw [m_number_str hb]
/-- signs of a text that stand in no number -/
theorem lc_bad {ρ : DEnv} (e : ∃ a, ρ = [a, DE.un]) (z : Str) (hl : z.length ≤ 6) : (if (signsD z).length ≤ 10000000 then lcL (gN 1) (mTest (mOp ninD (mVar 1) (mC (.str "0123456789")))) (mVar 1) ρ (signsD z) else none) = some (((tl z).filter fun c => !isDig c).map fun c => D.str ⟨#[c]⟩) := by
  have : (signsD z).length ≤ 10000000 := by
    have e : (signsD z).length = z.length := by simp [signsD, Str.length]
    omega
  rw [if_pos this]
  obtain ⟨a, rfl⟩ := e
  unfold signsD tl
  generalize z.cps.toList = l
  induction l with
  | nil => rfl
  | cons c l ih =>
    show ((((memD (.str ⟨#[c]⟩) (.str "0123456789")).map fun k => D.bl (!k)).bind asB).bind fun b => if b = true then (some (D.str ⟨#[c]⟩)).bind fun y => (lcL _ _ _ _ (l.map fun c => D.str ⟨#[c]⟩)).map (y :: ·) else lcL _ _ _ _ (l.map fun c => D.str ⟨#[c]⟩)) = _
    rw [mem_sign, ih]
    by_cases h : isDig c = true
    · simp [asB, h]
    · simp [asB, h]
def okC (z : Str) : Prop := ∀ c ∈ tl z, c < 1114112
theorem pds_signs : ∀ l : List Nat, pds (l.map fun c => D.str ⟨#[c]⟩) = some (l.map fun c => PyData.str ⟨#[c]⟩)
  | [] => rfl
  | c :: l => by simp [pds, pd, pdV, pds_signs l]
theorem canLay_signs : ∀ l : List Nat, (∀ c ∈ l, c < 1114112) → PyData.canLayAll0 (l.map fun c => PyData.str ⟨#[c]⟩) = true
  | [], _ => rfl
  | c :: l, h => by
    simp only [List.map_cons, PyData.canLayAll0, PyData.canLay0, Bool.and_eq_true]
    refine ⟨?_, canLay_signs l fun d hd => h d (by simp [hd])⟩
    have := h c (by simp)
    simp [PyData.canLay0, PyData.strOk, this]
theorem depthAll_signs : ∀ l : List Nat, PyData.depthAll (l.map fun c => PyData.str ⟨#[c]⟩) = 0
  | [] => rfl
  | c :: l => by simp [PyData.depthAll, PyData.depth, depthAll_signs l]
theorem ne_signs (l : List Nat) (h : ∀ c ∈ l, c < 1114112) : neD (.lst (l.map fun c => D.str ⟨#[c]⟩)) (.lst []) = some (.bl (!l.isEmpty)) := by
  have e : sameD (.lst (l.map fun c => D.str ⟨#[c]⟩)) (.lst []) = some l.isEmpty := by
    unfold sameD scalD deepD
    simp only [pd, pds, pds_signs, Option.map_some, Option.bind_some]
    have s1 : SeqAt.shaped (.list (l.map fun c => PyData.str ⟨#[c]⟩)) = true := by
      unfold SeqAt.shaped
      rw [PyData.canLay0, canLay_signs l h, PyData.depth, depthAll_signs]
      rfl
    rw [s1]
    have s2 : SeqAt.shaped (.list []) = true := by decide
    rw [s2]
    cases l <;> rfl
  unfold neD
  rw [e]
  rfl
/-- _law_number -/
theorem m_lawNumber_str {z : Str} (hb : z.length ≤ big) (hc : okC z) : m__law_number [DE.pu (.str z), DE.un] = some (.rt (optI (numW z))) := by
  have e1 : mCall lenD (mCons (mVar 0) mNil) [DE.pu (.str z), DE.un] = some (.int (z.length : Int)) := lenD_str hb
  have e0 : mTest (mOp eqD (mVar 0) (mC (.str ""))) [DE.pu (.str z), DE.un] = some (decide (z.length = 0)) := by
    show (eqD (.str z) (.str "")).bind asB = _
    rw [eqD_str]
    show some _ = some _
    congr 1
    rw [Bool.eq_iff_iff, decide_eq_true_eq, decide_eq_true_eq]
    constructor
    · rintro rfl
      rfl
    · intro h
      exact TL.ext_tl (by rw [len_tl] at h; exact List.eq_nil_of_length_eq_zero h)
  have c1 : mTest (mOp gtD (mCall lenD (mCons (mVar 0) mNil)) (mC (.int 6))) [DE.pu (.str z), DE.un] = some (decide (6 < z.length)) := by
    unfold mTest mOp
    rw [e1]
    simp only [mC, Option.bind_some, gtD, int2D, asB]
    congr 1
    rw [Bool.eq_iff_iff, decide_eq_true_eq, decide_eq_true_eq]
    omega
  have e2 : z.length ≤ 6 → mTest (mOp neD (mLst (mLc (mItems (mVar 0)) (gN 1) (mTest (mOp ninD (mVar 1) (mC (.str "0123456789")))) (mVar 1) [1])) (mLst (few mNil))) [DE.pu (.str z), DE.un] = some (!(tl z).all isDig) := fun hl => by
    have : mLc (mItems (mVar 0)) (gN 1) (mTest (mOp ninD (mVar 1) (mC (.str "0123456789")))) (mVar 1) [1] [DE.pu (.str z), DE.un] = some (((tl z).filter fun c => !isDig c).map fun c => D.str ⟨#[c]⟩) := lc_bad ⟨_, rfl⟩ z hl
    have f : mLst (few mNil) [DE.pu (.str z), DE.un] = some (.lst []) := rfl
    rw [ev_test ((ev_op (ev_lst this) f).trans (ne_signs _ fun c hm => hc c (List.mem_filter.mp hm).1))]
    show some _ = some _
    congr 1
    generalize tl z = l
    induction l with
    | nil => rfl
    | cons c l ih =>
      cases h : isDig c
      · simp [h]
      · simpa [h] using ih
  have e3 : mAnd (mTest (mOp gtD (mCall lenD (mCons (mVar 0) mNil)) (mC (.int 1)))) (mTest (mOp eqD (mOp ixD (mVar 0) (mC (.int 0))) (mC (.str "0")))) [DE.pu (.str z), DE.un] = some (zeroAhead z) := by
    unfold mAnd mTest mOp
    rw [e1]
    by_cases h : 1 < z.length
    · obtain ⟨c, hc, hx⟩ := head_str h hb
      have h' : ((1 : Int) < (z.length : Int)) := by omega
      have e : mVar 0 [DE.pu (.str z), DE.un] = some (.str z) := rfl
      simp only [mC, e, Option.bind_some, gtD, int2D, asB, hx, eqD_str, decide_eq_true h', if_true, zeroAhead, decide_eq_true h, hc, Bool.true_and]
      congr 1
      rw [Bool.eq_iff_iff, decide_eq_true_eq, decide_eq_true_eq, zero_str, one_eq]
      simp
    · have h' : ¬ ((1 : Int) < (z.length : Int)) := by omega
      simp [mC, gtD, int2D, asB, h', zeroAhead, h]
  have cond : mOr (mTest (mOp eqD (mVar 0) (mC (.str "")))) (mOr (mTest (mOp gtD (mCall lenD (mCons (mVar 0) mNil)) (mC (.int 6)))) (mOr (mTest (mOp neD (mLst (mLc (mItems (mVar 0)) (gN 1) (mTest (mOp ninD (mVar 1) (mC (.str "0123456789")))) (mVar 1) [1])) (mLst (few mNil)))) (mAnd (mTest (mOp gtD (mCall lenD (mCons (mVar 0) mNil)) (mC (.int 1)))) (mTest (mOp eqD (mOp ixD (mVar 0) (mC (.int 0))) (mC (.str "0"))))))) [DE.pu (.str z), DE.un] = some (!isNum z) := by
    unfold mOr
    rw [e0, c1, e3]
    by_cases h0 : z.length = 0
    · simp [h0, isNum]
    · by_cases h6 : 6 < z.length
      · have : ¬ z.length ≤ 6 := by omega
        simp [h0, h6, isNum, this]
      · have h6' : z.length ≤ 6 := by omega
        have h1 : 1 ≤ z.length := by omega
        rw [e2 h6']
        cases h2 : (tl z).all isDig <;> cases h3 : zeroAhead z <;> simp [h0, h6, isNum, h1, h6', h2, h3]
  unfold m__law_number mSeq mIfS
  rw [cond]
  cases h : isNum z with
  | true =>
    obtain ⟨i, hi⟩ := intText_num h
    have hl : z.length ≤ 6 := by simp [isNum] at h; exact h.1.1.2
    have e4 : mCall intF (mCons (mVar 0) mNil) [DE.pu (.str z), DE.un] = some (.int i) := by
      show intF [.str z] = _
      rw [intF_str (by omega), hi]
      rfl
    simp [mNext, mRet, e4, numW, h, hi, optI]
  | false => simp [mRet, mC, numW, h, optI]
theorem F_lawNumber_str {z : Str} (hb : z.length ≤ big) (hc : okC z) : F__law_number [.str z] = some (optI (numW z)) := by
  show (match m__law_number [DE.pu (.str z), DE.un] with
    | some (.rt d) => some d
    | some (.nx _) => some .non
    | _ => none) = _
  rw [m_lawNumber_str hb hc]
end K85

set_option Elab.async false
set_option linter.all false
set_option maxRecDepth 100000
set_option maxHeartbeats 4000000
namespace K85
open PySem PySem.Spec PyProof.Rows L2 Evl DD
/-! M2: texts cut; places and lists of places -/
/-! ### cutting -/
theorem pre_one (s c : Nat) (r : List Nat) : TL.pre [s] (c :: r) = (c == s) := by
  simp [TL.pre]
theorem spl_facts (s : Nat) : ∀ (l acc : List Nat), s ∉ acc → 
    (∀ p ∈ TL.spl [s] 0 acc l, s ∉ p ∧ p.length ≤ acc.length + l.length ∧ ∀ c ∈ p, c ∈ acc ∨ c ∈ l) ∧
    ((TL.spl [s] 0 acc l).map fun p => p.length + 1).sum = acc.length + l.length + 1 ∧ 1 ≤ (TL.spl [s] 0 acc l).length
  | [], acc, h => by
    rw [TL.spl_nil]
    refine ⟨fun p hp => ?_, by simp, by simp⟩
    rw [List.mem_singleton] at hp
    subst hp
    exact ⟨h, by simp, fun c hc => .inl hc⟩
  | c :: l, acc, h => by
    by_cases e : c = s
    · have hp : TL.pre [s] (c :: l) = true := by rw [pre_one, e]; simp
      rw [TL.spl_hit hp]
      obtain ⟨h1, h2, h3⟩ := spl_facts s l [] (by simp)
      show (∀ p ∈ acc :: TL.spl [s] 0 [] l, _) ∧ _ ∧ _
      refine ⟨fun p hp => ?_, ?_, by simp⟩
      · rcases List.mem_cons.mp hp with rfl | hp
        · exact ⟨h, by simp, fun c hc => .inl hc⟩
        · obtain ⟨a, b, d⟩ := h1 p hp
          refine ⟨a, by simp at b ⊢; omega, fun x hx => ?_⟩
          rcases d x hx with d | d
          · simp at d
          · exact .inr (by simp [d])
      · show ((acc :: TL.spl [s] 0 [] l).map fun p => p.length + 1).sum = _
        rw [List.map_cons, List.sum_cons, h2]
        simp
        omega
    · have hp : TL.pre [s] (c :: l) = false := by rw [pre_one]; simp [e]
      rw [TL.spl_miss hp]
      obtain ⟨h1, h2, h3⟩ := spl_facts s l (acc ++ [c]) (by simp [h]; exact fun z => e z.symm)
      refine ⟨fun p hp => ?_, ?_, h3⟩
      · obtain ⟨a, b, d⟩ := h1 p hp
        refine ⟨a, by simp at b ⊢; omega, fun x hx => ?_⟩
        rcases d x hx with d | d
        · rcases List.mem_append.mp d with d | d
          · exact .inl d
          · exact .inr (by simp at d; simp [d])
        · exact .inr (by simp [d])
      · rw [h2]
        simp
        omega
theorem cut_tl {z b : Str} {s : Nat} (hb : tl b = [s]) (hs : s < 256) : (Txt.split z b).map tl = TL.spl [s] 0 [] (tl z) := by
  have e := TL.split_spl z b (by show tl b ≠ []; rw [hb]; simp) (TL.kind_ok (by
    have : b.cps.toList.all (· < 256) = true := by
      show (tl b).all (· < 256) = true
      rw [hb]
      simp [hs]
    simpa using this))
  rw [show TL.tl b = [s] from hb] at e
  exact e
/-- length of texts with one more sign each -/
def wt (zs : List Str) : Nat := (zs.map fun z => z.length + 1).sum
theorem cut_facts {z b : Str} {s : Nat} (hb : tl b = [s]) (hs : s < 256) :
    (∀ p ∈ Txt.split z b, s ∉ tl p ∧ p.length ≤ z.length ∧ ∀ c ∈ tl p, c ∈ tl z) ∧ wt (Txt.split z b) = z.length + 1 ∧ 1 ≤ (Txt.split z b).length := by
  have e := cut_tl (z := z) hb hs
  obtain ⟨h1, h2, h3⟩ := spl_facts s (tl z) [] (by simp)
  rw [← e] at h1 h2 h3
  refine ⟨fun p hp => ?_, ?_, by simpa using h3⟩
  · obtain ⟨a, b, d⟩ := h1 (tl p) (List.mem_map_of_mem hp)
    refine ⟨a, by rw [len_tl, len_tl]; simpa using b, fun c hc => ?_⟩
    rcases d c hc with d | d
    · simp at d
    · exact d
  · unfold wt
    rw [List.map_map] at h2
    rw [len_tl z]
    have : (fun z : Str => z.length + 1) = (fun p : List Nat => p.length + 1) ∘ tl := by
      funext x
      simp [len_tl]
    rw [this, h2]
    simp
theorem wt_len : ∀ zs : List Str, zs.length ≤ wt zs
  | [] => by simp [wt]
  | z :: zs => by
    have := wt_len zs
    simp only [wt, List.map_cons, List.sum_cons, List.length_cons] at this ⊢
    omega
theorem cut_len {z b : Str} {s : Nat} (hb : tl b = [s]) (hs : s < 256) : (Txt.split z b).length ≤ z.length + 1 := by
  have := wt_len (Txt.split z b)
  rw [(cut_facts hb hs).2.1] at this
  exact this
theorem split_none {z b : Str} {s : Nat} (hb : tl b = [s]) (hs : s < 256) (h : s ∉ tl z) : Txt.split z b = [z] := by
  have e := cut_tl (z := z) hb hs
  rw [TL.spl_last1 h] at e
  exact TL.map_tl_inj (m := [z]) e
theorem split_many {z b : Str} {s : Nat} (hb : tl b = [s]) (hs : s < 256) (h : s ∈ tl z) : 2 ≤ (Txt.split z b).length := by
  obtain ⟨p, q, hpq, hn⟩ : ∃ p q, tl z = p ++ s :: q ∧ s ∉ p := by
    obtain ⟨p, q, e, hn⟩ := List.eq_append_cons_of_mem h
    exact ⟨p, q, e, hn⟩
  have e := cut_tl (z := z) hb hs
  have e2 : TL.spl [s] 0 [] (tl z) = ([] ++ p) :: TL.spl [s] 0 [] q := by
    rw [hpq]
    exact TL.spl_part1 (S := []) hn
  rw [e2] at e
  have l := congrArg List.length e
  have := (spl_facts s q [] (by simp)).2.2
  simp at l
  omega
theorem splitD_ok {z b : Str} {s : Nat} (hb : tl b = [s]) (hz : z.length + 2 ≤ big) : splitD (.str z) [.str b] = some (.lst ((Txt.split z b).map .str)) := by
  have : (b.length == 0) = false := by
    rw [len_tl, hb]
    rfl
  exact if_pos ⟨this, hz⟩
theorem tl_dot : tl "." = [46] := by decide
theorem tl_sp : tl " " = [32] := by decide
theorem tl_nl : tl "\n" = [10] := by decide

/-! ### all or nothing -/
def allW {α β : Type} (f : α → Option β) : List α → Option (List β)
  | [] => some []
  | z :: r => (f z).bind fun a => (allW f r).map (a :: ·)
def optD {β : Type} (t : β → D) : Option β → D
  | none => .non
  | some b => t b
theorem optI_eq (o : Option Int) : optI o = optD D.int o := by cases o <;> rfl
def isNonD : D → Bool
  | .val .non => true
  | _ => false
theorem any_non {α β : Type} {f : α → Option β} {t : β → D} (ht : ∀ b, isNonD (t b) = false) : ∀ zs : List α, (zs.map fun z => optD t (f z)).any isNonD = (allW f zs).isNone
  | [] => rfl
  | z :: r => by
    have ih := any_non (f := f) ht r
    cases h : f z with
    | none => simp [allW, h, optD, isNonD]
    | some b =>
      show (isNonD (optD t (f z)) || (r.map fun z => optD t (f z)).any isNonD) = ((f z).bind fun a => (allW f r).map (a :: ·)).isNone
      rw [ih, h]
      show (isNonD (t b) || _) = _
      rw [ht]
      simp
theorem all_some {α β : Type} {f : α → Option β} {t : β → D} : ∀ {zs : List α} {bs : List β}, allW f zs = some bs → (zs.map fun z => optD t (f z)) = bs.map t
  | [], bs, h => by cases h; rfl
  | z :: r, bs, h => by
    obtain ⟨b, h1, h⟩ := Option.bind_eq_some_iff.mp h
    obtain ⟨cs, h2, rfl⟩ := Option.map_eq_some_iff.mp h
    rw [List.map_cons, all_some h2, h1]
    rfl
/-- data that None may be asked among -/
inductive OptData : D → Prop
  | non : OptData .non
  | int (i : Int) : OptData (.int i)
  | tup (ns : List Int) : OptData (tupI ns)
theorem flats_non : ∀ {ds : List D} {vs : List V}, (∀ d ∈ ds, OptData d) → flatsD ds = some vs → inV .non vs = ds.any isNonD
  | [], vs, _, h => by cases h; rfl
  | d :: r, vs, hd, h => by
    simp only [flatsD, Option.bind_eq_some_iff, Option.map_eq_some_iff] at h
    obtain ⟨v, h1, ws, h2, rfl⟩ := h
    have ih := flats_non (fun d hm => hd d (by simp [hm])) h2
    have e : eqV v .non = isNonD d := by
      cases hd d (by simp) with
      | non => cases h1; rfl
      | int i => cases h1; rfl
      | tup ns => cases h1
    show (eqV v .non || inV .non ws) = (isNonD d || r.any isNonD)
    rw [e, ih]
theorem pds_ints : ∀ ns : List Int, pds (ns.map D.int) = some (ns.map PyData.int)
  | [] => rfl
  | n :: r => by simp [pds, pd, pdV, pds_ints r]
theorem canLay_ints : ∀ ns : List Int, PyData.canLayAll0 (ns.map PyData.int) = true
  | [] => rfl
  | n :: r => by simp [PyData.canLayAll0, PyData.canLay0, canLay_ints r]
theorem depth_ints : ∀ ns : List Int, PyData.depthAll (ns.map PyData.int) = 0
  | [] => rfl
  | n :: r => by simp [PyData.depthAll, PyData.depth, depth_ints r]
theorem pds_opt : ∀ {ds : List D}, (∀ d ∈ ds, OptData d) → ∃ ps, pds ds = some ps ∧ PyData.canLayAll0 ps = true ∧ PyData.depthAll ps ≤ 1 ∧ (ps.any fun z => PyData.eqv z .none) = ds.any isNonD
  | [], _ => ⟨[], rfl, rfl, by simp [PyData.depthAll], rfl⟩
  | d :: r, h => by
    obtain ⟨ps, e, h1, h2, h3⟩ := pds_opt (ds := r) fun d hm => h d (by simp [hm])
    cases h d (by simp) with
    | non => exact ⟨.none :: ps, by simp [pds, pd, pdV, e], by simp [PyData.canLayAll0, PyData.canLay0, h1], by simp [PyData.depthAll, PyData.depth]; omega, by simp [PyData.eqv, isNonD]⟩
    | int i => exact ⟨.int i :: ps, by simp [pds, pd, pdV, e], by simp [PyData.canLayAll0, PyData.canLay0, h1], by simp [PyData.depthAll, PyData.depth]; omega, by simp [PyData.eqv, isNonD, h3]⟩
    | tup ns => exact ⟨.tuple (ns.map .int) :: ps, by simp [pds, pd, tupI, pds_ints, e], by simp [PyData.canLayAll0, PyData.canLay0, h1, canLay_ints], by simp [PyData.depthAll, PyData.depth, depth_ints]; omega, by simp [PyData.eqv, isNonD, h3, tupI]⟩
theorem mem_non {ds : List D} (h : ∀ d ∈ ds, OptData d) : memD .non (.lst ds) = some (ds.any isNonD) := by
  unfold memD
  split
  · rename_i e1 e2; cases e1
  · rename_i ds' e2
    cases e2
    split
    · rename_i v vs e1 e3
      cases e1
      rw [flats_non h e3]
    · obtain ⟨ps, e, h1, h2, h3⟩ := pds_opt h
      rw [e]
      have s : SeqAt.shaped (.list ps) = true := by
        unfold SeqAt.shaped
        rw [PyData.canLay0, h1, PyData.depth]
        simp
        omega
      have s0 : SeqAt.shaped .none = true := by decide
      simp only [pd, pdV, Option.bind_some, s, s0, Bool.and_self, if_true, h3]
  · rename_i e; cases e
  · rename_i a b c
    exact (a _ rfl).elim
/-- a list made by a call of each item -/
theorem lc_call {ρ : DEnv} {k : Nat} {F : List D → Option D} {g : D → D} (hk : k < ρ.length) : ∀ {ds : List D}, (∀ d ∈ ds, F [d] = some (g d)) → lcL (gN k) mYes (mCall F (mCons (mVar k) mNil)) ρ ds = some (ds.map g)
  | [], _ => rfl
  | d :: r, h => by
    have ih := lc_call (g := g) hk (ds := r) fun d hm => h d (by simp [hm])
    have e : mVar k (ρ.set k (.pu d)) = some d := by
      unfold mVar
      rw [List.getElem?_set_self hk]
    have e2 : mCall F (mCons (mVar k) mNil) (ρ.set k (.pu d)) = some (g d) := by
      unfold mCall mCons
      rw [e]
      exact h d (by simp)
    show (mCall F (mCons (mVar k) mNil) (ρ.set k (.pu d))).bind (fun y => (lcL _ _ _ ρ r).map (y :: ·)) = _
    rw [e2, ih]
    rfl
end K85

set_option Elab.async false
set_option linter.all false
set_option maxRecDepth 100000
set_option maxHeartbeats 4000000
namespace K85
open PySem PySem.Spec PyProof.Rows L2 Evl DD
/-! M3: numbers_of, place_of, _law_place_told -/
theorem lc_ev {mi : MA} {ρ : DEnv} {ds : List D} {k : Nat} {F : List D → Option D} {g : D → D} (hi : mi ρ = some ds) (hl : ds.length ≤ 10000000) (hk : k < ρ.length) (h : ∀ d ∈ ds, F [d] = some (g d)) :
    mLc mi (gN k) mYes (mCall F (mCons (mVar k) mNil)) [k] ρ = some (ds.map g) := by
  unfold mLc
  rw [hi]
  show (if ds.length ≤ 10000000 then _ else none) = _
  rw [if_pos hl]
  exact lc_call (by simpa [wipeD] using hk) h
theorem test_none {ρ : DEnv} {i : Nat} {ds : List D} (hi : mVar i ρ = some (.lst ds)) (h : ∀ d ∈ ds, OptData d) : mTest (mOp inD (mC .non) (mVar i)) ρ = some (ds.any isNonD) := by
  have e : inD .non (.lst ds) = some (.bl (ds.any isNonD)) := by
    unfold inD
    rw [mem_non h]
    rfl
  rw [ev_test ((ev_op rfl hi).trans e)]
  rfl
theorem optData_I (o : Option Int) : OptData (optI o) := by
  cases o with
  | none => exact .non
  | some i => exact .int i
def okB (z : Str) : Prop := z.length + 2 ≤ big ∧ okC z
def small (z : Str) : Prop := z.length ≤ 1000000
theorem big_of {z : Str} (h : small z) : z.length + 2 ≤ big := by
  have : z.length ≤ 1000000 := h
  rw [big_eq]
  omega
theorem big_of' {z : Str} (h : small z) : z.length ≤ big := by
  have := big_of h
  omega
def optIs : Option (List Int) → D
  | none => .non
  | some ns => .lst (ns.map D.int)
theorem numbers_ds (zs : List Str) : ((zs.map D.str).map fun d => match d with | .val (.str z) => optI (numW z) | _ => .non) = zs.map fun z => optD D.int (numW z) := by
  rw [List.map_map]
  apply List.map_congr_left
  intro z _
  exact optI_eq _
theorem any_I (zs : List Str) : (zs.map fun z => optD D.int (numW z)).any isNonD = (allW numW zs).isNone := any_non (fun _ => rfl) zs
theorem F_numbers_ok {zs : List Str} (hl : zs.length ≤ 10000000) (hz : ∀ z ∈ zs, small z) : F_numbers_of [.lst (zs.map .str)] = some (optIs (allW numW zs)) := by
  have e1 : mLc (mItems (mVar 0)) (gN 2) mYes (mCall F_number_of (mCons (mVar 2) mNil)) [2] [DE.pu (.lst (zs.map .str)), DE.un, DE.un] = some (zs.map fun z => optD D.int (numW z)) := by
    rw [← numbers_ds]
    refine lc_ev rfl (by simpa using hl) (by simp) fun d hd => ?_
    obtain ⟨z, hz', rfl⟩ := List.mem_map.mp hd
    exact F_number_str (big_of' (hz z hz'))
  have e2 : mTest (mOp inD (mC .non) (mVar 1)) [DE.pu (.lst (zs.map .str)), DE.pu (.lst (zs.map fun z => optD D.int (numW z))), DE.un] = some (allW numW zs).isNone := by
    rw [test_none rfl (fun d hd => ?_), any_I]
    obtain ⟨z, _, rfl⟩ := List.mem_map.mp hd
    rw [← optI_eq]
    exact optData_I _
  have e3 : m_numbers_of [DE.pu (.lst (zs.map .str)), DE.un, DE.un] = some (.rt (optIs (allW numW zs))) := by
    unfold m_numbers_of mSeq mAsg
    rw [ev_lst e1]
    show mRet (mIf (mTest (mOp inD (mC .non) (mVar 1))) (mC .non) (mVar 1)) [DE.pu (.lst (zs.map .str)), DE.pu (.lst (zs.map fun z => optD D.int (numW z))), DE.un] = _
    unfold mRet mIf
    rw [e2]
    cases h : allW numW zs with
    | none => rfl
    | some bs =>
      rw [all_some h]
      rfl
  show (match m_numbers_of [DE.pu (.lst (zs.map .str)), DE.un, DE.un] with
    | some (.rt d) => some d
    | some (.nx _) => some .non
    | _ => none) = _
  rw [e3]
def placeW (z : Str) : Option (List Int) := if z = "." then some [] else allW numW (Txt.split z ".")
def optT : Option (List Int) → D := optD tupI
theorem small_cut {z b : Str} {s : Nat} (hb : tl b = [s]) (hs : s < 256) (h : small z) : ∀ p ∈ Txt.split z b, small p := fun p hp => Nat.le_trans ((cut_facts hb hs).1 p hp).2.1 h
theorem okC_cut {z b : Str} {s : Nat} (hb : tl b = [s]) (hs : s < 256) (h : okC z) : ∀ p ∈ Txt.split z b, okC p := fun p hp c hc => h c (((cut_facts hb hs).1 p hp).2.2 c hc)
theorem cut_many {z b : Str} {s : Nat} (hb : tl b = [s]) (hs : s < 256) (h : small z) : (Txt.split z b).length ≤ 10000000 := by
  have h1 := cut_len (z := z) hb hs
  have h2 : z.length ≤ 1000000 := h
  omega
theorem F_place_ok {z : Str} (h : small z) : F_place_of [.str z] = some (optT (placeW z)) := by
  have e0 : mTest (mOp eqD (mVar 0) (mC (.str "."))) [DE.pu (.str z), DE.un] = some (decide (z = ".")) := by
    rw [ev_test ((ev_op rfl rfl).trans (eqD_str z "."))]
    rfl
  have e1 : mCall F_numbers_of (mCons (mMeth splitD (mVar 0) (mCons (mC (.str ".")) mNil)) mNil) [DE.pu (.str z), DE.un] = some (optIs (allW numW (Txt.split z "."))) := by
    show ((splitD (.str z) [.str "."]).bind fun d => some [d]).bind F_numbers_of = _
    rw [splitD_ok tl_dot (big_of h)]
    exact F_numbers_ok (cut_many tl_dot (by decide) h) (small_cut tl_dot (by decide) h)
  have e2 : m_place_of [DE.pu (.str z), DE.un] = some (.rt (optT (placeW z))) := by
    unfold m_place_of mSeq mIfS
    rw [e0]
    by_cases hz : z = "."
    · simp only [hz, decide_true, Option.bind_some, if_true]
      unfold placeW
      rw [if_pos rfl]
      rfl
    · simp only [hz, decide_false, Option.bind_some, if_false, Bool.false_eq_true, mNext, mAsg]
      rw [e1]
      unfold placeW
      rw [if_neg hz]
      cases allW numW (Txt.split z ".") with
      | none => rfl
      | some ns => rfl
  show (match m_place_of [DE.pu (.str z), DE.un] with
    | some (.rt d) => some d
    | some (.nx _) => some .non
    | _ => none) = _
  rw [e2]
theorem F_told_ok {z : Str} (h : small z) (hc : okC z) : F__law_place_told [.str z] = some (optT (placeW z)) := by
  have e0 : mTest (mOp eqD (mVar 0) (mC (.str "."))) [DE.pu (.str z), DE.un, DE.un] = some (decide (z = ".")) := by
    rw [ev_test ((ev_op rfl rfl).trans (eqD_str z "."))]
    rfl
  have e1 : mLc (mItems (mMeth splitD (mVar 0) (mCons (mC (.str ".")) mNil))) (gN 2) mYes (mCall F__law_number (mCons (mVar 2) mNil)) [2] [DE.pu (.str z), DE.un, DE.un] = some ((Txt.split z ".").map fun z => optD D.int (numW z)) := by
    rw [← numbers_ds]
    refine lc_ev ?_ (by simpa using cut_many tl_dot (by decide) h) (by simp) fun d hd => ?_
    · show (splitD (.str z) [.str "."]).bind itemsD = _
      rw [splitD_ok tl_dot (big_of h)]
      rfl
    · obtain ⟨p, hp, rfl⟩ := List.mem_map.mp hd
      exact F_lawNumber_str (big_of' (small_cut tl_dot (by decide) h p hp)) (okC_cut tl_dot (by decide) hc p hp)
  have e2 : mTest (mOp inD (mC .non) (mVar 1)) [DE.pu (.str z), DE.pu (.lst ((Txt.split z ".").map fun z => optD D.int (numW z))), DE.un] = some (allW numW (Txt.split z ".")).isNone := by
    rw [test_none rfl (fun d hd => ?_), any_I]
    obtain ⟨z, _, rfl⟩ := List.mem_map.mp hd
    rw [← optI_eq]
    exact optData_I _
  have e3 : m__law_place_told [DE.pu (.str z), DE.un, DE.un] = some (.rt (optT (placeW z))) := by
    unfold m__law_place_told mSeq mIfS
    rw [e0]
    by_cases hz : z = "."
    · simp only [hz, decide_true, Option.bind_some, if_true]
      unfold placeW
      rw [if_pos rfl]
      rfl
    · simp only [hz, decide_false, Option.bind_some, if_false, Bool.false_eq_true, mNext, mAsg]
      rw [ev_lst e1]
      show ((mTest (mOp inD (mC .non) (mVar 1)) [DE.pu (.str z), DE.pu (.lst ((Txt.split z ".").map fun z => optD D.int (numW z))), DE.un]).bind fun x => if x = true then mRet (mC .non) _ else some (.nx [DE.pu (.str z), DE.pu (.lst ((Txt.split z ".").map fun z => optD D.int (numW z))), DE.un])).bind _ = _
      rw [e2]
      unfold placeW
      rw [if_neg hz]
      cases hw : allW numW (Txt.split z ".") with
      | none => rfl
      | some ns =>
        rw [all_some hw]
        rfl
  show (match m__law_place_told [DE.pu (.str z), DE.un, DE.un] with
    | some (.rt d) => some d
    | some (.nx _) => some .non
    | _ => none) = _
  rw [e3]
end K85

set_option Elab.async false
set_option linter.all false
set_option maxRecDepth 100000
set_option maxHeartbeats 4000000
namespace K85
open PySem PySem.Spec PyProof.Rows L2 Evl DD
/-! M4: rising lists, lists of places -/
theorem ev_call {F : List D → Option D} {m : MA} {ρ : DEnv} {ds : List D} (h : m ρ = some ds) : mCall F m ρ = F ds := by
  unfold mCall
  rw [h]
  rfl
theorem ev_cons {m : ME} {r : MA} {ρ : DEnv} {d : D} {ds : List D} (h : m ρ = some d) (h2 : r ρ = some ds) : mCons m r ρ = some (d :: ds) := by
  unfold mCons
  rw [h, h2]
  rfl
theorem ev_lc {mi : MA} {f : D → DEnv → Option DEnv} {c : MT} {e : ME} {vs : List Nat} {ρ : DEnv} {ds : List D} (h : mi ρ = some ds) (hl : ds.length ≤ 10000000) : mLc mi f c e vs ρ = lcL f c e (wipeD ρ vs) ds := by
  unfold mLc
  rw [h]
  exact if_pos hl
theorem ev_runF {N : List Str} {n : Nat} {m : MS} {ds : List D} {d : D} (hn : ds.length = n) (h : m (startD N ds) = some (.rt d)) : runF N n m ds = some d := by
  unfold runF
  rw [if_pos hn, h]
theorem ev_ret {m : ME} {ρ : DEnv} {d : D} (h : m ρ = some d) : mRet m ρ = some (.rt d) := by
  unfold mRet
  rw [h]
  rfl
theorem ev_range2 {m : MA} {ρ : DEnv} {a b : Int} (h : m ρ = some [.int a, .int b]) (hb : (-(2 ^ 62) ≤ a ∧ a < 2 ^ 62) ∧ (-(2 ^ 62) ≤ b ∧ b < 2 ^ 62)) : mRange2 m ρ = some (rangeD a (b - a).toNat) := by
  unfold mRange2
  rw [h]
  exact if_pos hb
theorem ev_range1 {m : MA} {ρ : DEnv} {a : Int} (h : m ρ = some [.int a]) (hb : -(2 ^ 62) ≤ a ∧ a < 2 ^ 62) : mRange1 m ρ = some (rangeD 0 a.toNat) := by
  unfold mRange1
  rw [h]
  exact if_pos hb
def rising : List (List Int) → Bool
  | a :: b :: r => HT.lexLt a b && rising (b :: r)
  | _ => true
theorem rising_zip : ∀ rows : List (List Int), (List.zipWith HT.lexLt rows (rows.drop 1)).all id = rising rows
  | [] => rfl
  | [a] => rfl
  | a :: b :: r => by
    have ih := rising_zip (b :: r)
    simp only [List.drop_succ_cons, List.drop_zero] at ih
    show (List.zipWith HT.lexLt (a :: b :: r) (b :: r)).all id = (HT.lexLt a b && rising (b :: r))
    rw [← ih]
    rfl
theorem ltD_tup (a b : List Int) : ltD (tupI a) (tupI b) = some (.bl (HT.lexLt a b)) := by
  unfold ltD ordD tupI
  simp only [intsD_map, Option.bind_some, Option.map_some]
theorem leD_tup (a b : List Int) : leD (tupI a) (tupI b) = some (.bl (lexLe a b)) := by
  unfold leD ordD tupI
  simp only [intsD_map, Option.bind_some, Option.map_some]
theorem lc_zip {x : DE} : ∀ (as bs : List (List Int)), lcL (gT [1, 2]) mYes (mOp ltD (mVar 1) (mVar 2)) [x, .un, .un] (zipD (as.map tupI) (bs.map tupI)) = some ((List.zipWith HT.lexLt as bs).map D.bl)
  | [], _ => by simp [zipD, lcL]
  | _ :: _, [] => by simp [zipD, lcL]
  | a :: as, b :: bs => by
    have ih := lc_zip (x := x) as bs
    show (ltD (tupI a) (tupI b)).bind (fun y => (lcL _ _ _ _ (zipD (as.map tupI) (bs.map tupI))).map (y :: ·)) = _
    rw [ltD_tup, ih]
    rfl
theorem sl_one (rows : List (List Int)) : slD (.lst (rows.map tupI)) (some 1) none = some (.lst ((rows.drop 1).map tupI)) := by
  show some (D.lst (DD.cutD (rows.map tupI) (some 1) none)) = _
  congr 2
  unfold DD.cutD
  rw [show (some (1 : Int)) = some ((1 : Nat) : Int) from rfl, HT.sIx_nat, HT.sIx_none, List.length_map, List.map_drop]
  rw [List.take_of_length_le (by simp)]
  cases rows with
  | nil => simp
  | cons a r => 
    have : min 1 (a :: r).length = 1 := by simp
    rw [this]
theorem F_rising_ok {rows : List (List Int)} (hl : rows.length ≤ 10000000) : F_is_rising [.lst (rows.map tupI)] = some (.bl (rising rows)) := by
  have e1 : mLc (mZip (mCons (mVar 0) (mCons (mSl slD (mVar 0) (mPart (mC (.int 1))) mNoPart) mNil))) (gT [1, 2]) mYes (mOp ltD (mVar 1) (mVar 2)) [1, 2] [DE.pu (.lst (rows.map tupI)), .un, .un] = some ((List.zipWith HT.lexLt rows (rows.drop 1)).map D.bl) := by
    have e0 : mSl slD (mVar 0) (mPart (mC (.int 1))) mNoPart [DE.pu (.lst (rows.map tupI)), .un, .un] = some (.lst ((rows.drop 1).map tupI)) := sl_one rows
    have e : mZip (mCons (mVar 0) (mCons (mSl slD (mVar 0) (mPart (mC (.int 1))) mNoPart) mNil)) [DE.pu (.lst (rows.map tupI)), .un, .un] = some (zipD (rows.map tupI) ((rows.drop 1).map tupI)) := by
      unfold mZip
      rw [ev_cons rfl (ev_cons e0 rfl)]
      rfl
    rw [ev_lc e (by rw [zipD_len]; simp; omega)]
    exact lc_zip _ _
  refine ev_runF rfl (ev_ret ?_)
  show mCall allD (mCons (mLst _) mNil) [DE.pu (.lst (rows.map tupI)), .un, .un] = _
  rw [ev_call (ev_cons (ev_lst e1) rfl)]
  simp only [allD, blsD_map, Option.map_some, rising_zip]

/-- the first of the items that are not above the one before, as the law tells it -/
theorem ix_tup {rows : List (List Int)} {k : Nat} (hk : k < rows.length) : ixD (.lst (rows.map tupI)) (.int (k : Int)) = some (tupI (rows.getD k [])) := by
  show atI (rows.map tupI) (k : Int) = _
  unfold atI ixN
  simp [hk]
def falls (rows : List (List Int)) (i : Nat) : Bool := lexLe (rows.getD (i + 1) []) (rows.getD i [])
theorem lc_falls {rows : List (List Int)} : ∀ js : List Nat, (∀ j ∈ js, j + 1 < rows.length) →
    lcL (gN 1) (mTest (mOp leD (mOp ixD (mVar 0) (mVar 1)) (mOp ixD (mVar 0) (mOp subD (mVar 1) (mC (.int 1)))))) (mVar 1) [DE.pu (.lst (rows.map tupI)), .un] (js.map fun (i : Nat) => D.int (1 + (i : Int))) = some ((js.filter (falls rows)).map fun (i : Nat) => D.int (1 + (i : Int)))
  | [], _ => rfl
  | j :: js, h => by
    have ih := lc_falls js fun i hi => h i (by simp [hi])
    have hj := h j (by simp)
    have e1 : mTest (mOp leD (mOp ixD (mVar 0) (mVar 1)) (mOp ixD (mVar 0) (mOp subD (mVar 1) (mC (.int 1))))) [DE.pu (.lst (rows.map tupI)), .pu (.int (1 + (j : Int)))] = some (falls rows j) := by
      have a1 : mOp ixD (mVar 0) (mVar 1) [DE.pu (.lst (rows.map tupI)), .pu (.int (1 + (j : Int)))] = some (tupI (rows.getD (j + 1) [])) := by
        rw [ev_op rfl rfl, show (1 + (j : Int)) = ((j + 1 : Nat) : Int) by omega, ix_tup hj]
      have a2 : mOp ixD (mVar 0) (mOp subD (mVar 1) (mC (.int 1))) [DE.pu (.lst (rows.map tupI)), .pu (.int (1 + (j : Int)))] = some (tupI (rows.getD j [])) := by
        have b : mOp subD (mVar 1) (mC (.int 1)) [DE.pu (.lst (rows.map tupI)), .pu (.int (1 + (j : Int)))] = some (.int (j : Int)) := by
          rw [ev_op rfl rfl]
          show some (D.int (1 + (j : Int) - 1)) = _
          congr 2
          omega
        rw [ev_op rfl b, ix_tup (by omega)]
      rw [ev_test ((ev_op a1 a2).trans (leD_tup _ _))]
      rfl
    show ((mTest _ [DE.pu (.lst (rows.map tupI)), .pu (.int (1 + (j : Int)))]).bind fun b => if b = true then (some (D.int (1 + (j : Int)))).bind fun y => (lcL _ _ _ _ (js.map fun (i : Nat) => D.int (1 + (i : Int)))).map (y :: ·) else lcL _ _ _ _ (js.map fun (i : Nat) => D.int (1 + (i : Int)))) = _
    rw [e1, ih]
    cases hf : falls rows j <;> simp [hf]
theorem rising_falls : ∀ rows : List (List Int), (List.range (rows.length - 1)).filter (falls rows) = [] ↔ rising rows = true
  | [] => by simp [rising]
  | [a] => by simp [rising]
  | a :: b :: r => by
    have ih := rising_falls (b :: r)
    rw [List.filter_eq_nil_iff] at ih ⊢
    show (∀ i ∈ List.range (r.length + 1), ¬ falls (a :: b :: r) i = true) ↔ (HT.lexLt a b && rising (b :: r)) = true
    rw [Bool.and_eq_true, ← ih]
    constructor
    · intro h
      refine ⟨?_, fun i hi => ?_⟩
      · have := h 0 (by simp)
        simpa [falls, lexLe] using this
      · have := h (i + 1) (by simp at hi ⊢; omega)
        simpa [falls, lexLe] using this
    · rintro ⟨h1, h2⟩ i hi
      cases i with
      | zero => simpa [falls, lexLe] using h1
      | succ i =>
        have := h2 i (by simp at hi ⊢; omega)
        simpa [falls, lexLe] using this
theorem F_lawRising_ok {rows : List (List Int)} (hl : rows.length ≤ 1000001) : ∃ d, F__law_rising [.lst (rows.map tupI)] = some d ∧ notND d .non = some (.bl (!rising rows)) := by
  have e1 : mLc (mRange2 (mCons (mC (.int 1)) (mCons (mCall lenD (mCons (mVar 0) mNil)) mNil))) (gN 1) (mTest (mOp leD (mOp ixD (mVar 0) (mVar 1)) (mOp ixD (mVar 0) (mOp subD (mVar 1) (mC (.int 1)))))) (mVar 1) [1] [DE.pu (.lst (rows.map tupI)), .un] =
      some (((List.range (rows.length - 1)).filter (falls rows)).map fun (i : Nat) => D.int (1 + (i : Int))) := by
    have e : mRange2 (mCons (mC (.int 1)) (mCons (mCall lenD (mCons (mVar 0) mNil)) mNil)) [DE.pu (.lst (rows.map tupI)), .un] = some (rangeD 1 (rows.length - 1)) := by
      have e0 : mCall lenD (mCons (mVar 0) mNil) [DE.pu (.lst (rows.map tupI)), .un] = some (.int (rows.length : Int)) := by
        show some (D.int ((rows.map tupI).length : Int)) = _
        rw [List.length_map]
      rw [ev_range2 (ev_cons rfl (ev_cons e0 rfl)) (by omega)]
      congr 2
      omega
    rw [ev_lc e (by simp [rangeD]; omega)]
    exact lc_falls _ fun j hj => by
      rw [List.mem_range] at hj
      omega
  generalize hfs : (List.range (rows.length - 1)).filter (falls rows) = fs at e1
  have hz : fs.length ≤ 1000001 := by
    rw [← hfs]
    refine Nat.le_trans (List.length_filter_le _ _) ?_
    simp
    omega
  have e2 : mOp addD (mLst (mLc (mRange2 (mCons (mC (.int 1)) (mCons (mCall lenD (mCons (mVar 0) mNil)) mNil))) (gN 1) (mTest (mOp leD (mOp ixD (mVar 0) (mVar 1)) (mOp ixD (mVar 0) (mOp subD (mVar 1) (mC (.int 1)))))) (mVar 1) [1])) (mLst (few (mCons (mC .non) mNil))) [DE.pu (.lst (rows.map tupI)), .un] = some (.lst ((fs.map fun (i : Nat) => D.int (1 + (i : Int))) ++ [.non])) := by
    rw [ev_op (ev_lst e1) (rfl : _ = some (D.lst [.non]))]
    exact if_pos (by simp [big_eq]; omega)
  have e3 : m__law_rising [DE.pu (.lst (rows.map tupI)), .un] = (ixD (.lst ((fs.map fun (i : Nat) => D.int (1 + (i : Int))) ++ [.non])) (.int 0)).map Out.rt := by
    unfold m__law_rising mRet
    rw [ev_op e2 rfl]
  have e4 : ∀ d, ixD (.lst ((fs.map fun (i : Nat) => D.int (1 + (i : Int))) ++ [.non])) (.int 0) = some d → F__law_rising [.lst (rows.map tupI)] = some d := fun d h => by
    refine ev_runF rfl ?_
    show m__law_rising [DE.pu (.lst (rows.map tupI)), .un] = _
    rw [e3, h]
    rfl
  cases fs with
  | nil =>
    refine ⟨.non, e4 _ rfl, ?_⟩
    rw [(rising_falls rows).mp hfs]
    rfl
  | cons f fs =>
    refine ⟨.int (1 + (f : Int)), e4 _ (by show atI _ 0 = _; unfold atI ixN; simp; rw [if_pos (by omega)]; rfl), ?_⟩
    have : rising rows = false := by
      cases h : rising rows with
      | false => rfl
      | true =>
        rw [(rising_falls rows).mpr h] at hfs
        cases hfs
    rw [this]
    rfl
end K85

set_option Elab.async false
set_option linter.all false
set_option maxRecDepth 100000
set_option maxHeartbeats 4000000
namespace K85
open PySem PySem.Spec PyProof.Rows L2 Evl DD
/-! M5: lists of places, the readers -/
def placesW (zs : List Str) : Option (List (List Int)) := (allW placeW zs).bind fun rows => if rising rows = true then some rows else none
def rowsD (rows : List (List Int)) : D := .lst (rows.map tupI)
def optP : Option (List (List Int)) → D := optD rowsD
theorem tup_not_non (b : List Int) : isNonD (tupI b) = false := rfl
theorem optData_T (o : Option (List Int)) : OptData (optD tupI o) := by
  cases o with
  | none => exact .non
  | some i => exact .tup i
def toldW (zs : List Str) : List D := zs.map fun z => optD tupI (placeW z)
theorem told_opt (zs : List Str) : ∀ d ∈ toldW zs, OptData d := fun d hd => by
  obtain ⟨z, _, rfl⟩ := List.mem_map.mp hd
  exact optData_T _
theorem told_any (zs : List Str) : (toldW zs).any isNonD = (allW placeW zs).isNone := any_non tup_not_non zs
theorem told_map (zs : List Str) (h : D → D) (hh : ∀ z, h (.str z) = optD tupI (placeW z)) : (zs.map D.str).map h = toldW zs := by
  rw [List.map_map]
  apply List.map_congr_left
  intro z _
  exact hh z
def plD : D → D
  | .val (.str z) => optD tupI (placeW z)
  | _ => .non
theorem allW_len {α β : Type} {f : α → Option β} : ∀ {zs : List α} {bs : List β}, allW f zs = some bs → bs.length = zs.length
  | [], bs, h => by cases h; rfl
  | z :: r, bs, h => by
    obtain ⟨b, h1, h⟩ := Option.bind_eq_some_iff.mp h
    obtain ⟨cs, h2, rfl⟩ := Option.map_eq_some_iff.mp h
    simp [allW_len h2]
theorem ev_not {t : MT} {ρ : DEnv} {b : Bool} (h : t ρ = some b) : mNot t ρ = some (!b) := by
  unfold mNot
  rw [h]
  rfl
theorem ev_or_t {a b : MT} {ρ : DEnv} (h : a ρ = some true) : mOr a b ρ = some true := by
  unfold mOr
  rw [h]
  rfl
theorem ev_or_f {a b : MT} {ρ : DEnv} (h : a ρ = some false) : mOr a b ρ = b ρ := by
  unfold mOr
  rw [h]
  rfl
theorem ev_and_t {a b : MT} {ρ : DEnv} (h : a ρ = some true) : mAnd a b ρ = b ρ := by
  unfold mAnd
  rw [h]
  rfl
theorem ev_and_f {a b : MT} {ρ : DEnv} (h : a ρ = some false) : mAnd a b ρ = some false := by
  unfold mAnd
  rw [h]
  rfl
theorem ev_if_t {t : MT} {a b : ME} {ρ : DEnv} (h : t ρ = some true) : mIf t a b ρ = a ρ := by
  unfold mIf
  rw [h]
  rfl
theorem ev_if_f {t : MT} {a b : ME} {ρ : DEnv} (h : t ρ = some false) : mIf t a b ρ = b ρ := by
  unfold mIf
  rw [h]
  rfl
theorem ev_ifS_t {t : MT} {a b : MS} {ρ : DEnv} (h : t ρ = some true) : mIfS t a b ρ = a ρ := by
  unfold mIfS
  rw [h]
  rfl
theorem ev_ifS_f {t : MT} {a b : MS} {ρ : DEnv} (h : t ρ = some false) : mIfS t a b ρ = b ρ := by
  unfold mIfS
  rw [h]
  rfl
theorem ev_seq {m n : MS} {ρ ρ' : DEnv} (h : m ρ = some (.nx ρ')) : mSeq m n ρ = n ρ' := by
  unfold mSeq
  rw [h]
  rfl
theorem ev_seq_rt {m n : MS} {ρ : DEnv} {d : D} (h : m ρ = some (.rt d)) : mSeq m n ρ = some (.rt d) := by
  unfold mSeq
  rw [h]
  rfl
theorem ev_seq_ex {m n : MS} {ρ ρ' : DEnv} {C : Addr} {f : Str} {d : D} (h : m ρ = some (.ex C f d ρ')) : mSeq m n ρ = some (.ex C f d ρ') := by
  unfold mSeq
  rw [h]
  rfl
theorem ev_asg {i : Nat} {m : ME} {ρ : DEnv} {d : D} (h : m ρ = some d) : mAsg i m ρ = some (.nx (ρ.set i (.pu d))) := by
  unfold mAsg
  rw [h]
  rfl
theorem ev_tru {m : ME} {ρ : DEnv} {d : D} (h : m ρ = some d) : mTru m ρ = truD d := by
  unfold mTru
  rw [h]
  rfl
theorem F_places_ok {zs : List Str} (hl : zs.length ≤ 1000001) (hz : ∀ z ∈ zs, small z) : F_places_of [.lst (zs.map .str)] = some (optP (placesW zs)) := by
  have e1 : mLc (mItems (mVar 0)) (gN 2) mYes (mCall F_place_of (mCons (mVar 2) mNil)) [2] [DE.pu (.lst (zs.map .str)), DE.un, DE.un] = some (toldW zs) := by
    rw [← told_map zs plD fun _ => rfl]
    refine lc_ev rfl (by simp; omega) (by simp) fun d hd => ?_
    obtain ⟨z, hz', rfl⟩ := List.mem_map.mp hd
    exact F_place_ok (hz z hz')
  have e2 : mTest (mOp inD (mC .non) (mVar 1)) [DE.pu (.lst (zs.map .str)), DE.pu (.lst (toldW zs)), DE.un] = some (allW placeW zs).isNone := by
    rw [test_none rfl (told_opt zs), told_any]
  refine ev_runF rfl ?_
  show mSeq (mAsg 1 (mLst _)) _ [DE.pu (.lst (zs.map .str)), DE.un, DE.un] = _
  rw [ev_seq (ev_asg (ev_lst e1))]
  show mRet _ [DE.pu (.lst (zs.map .str)), DE.pu (.lst (toldW zs)), DE.un] = _
  refine ev_ret ?_
  cases h : allW placeW zs with
  | none =>
    rw [h] at e2
    rw [ev_if_t (ev_or_t e2)]
    unfold placesW
    rw [h]
    rfl
  | some rows =>
    rw [h] at e2
    have ed : toldW zs = rows.map tupI := all_some h
    rw [ed] at e2 ⊢
    have er : F_is_rising [.lst (rows.map tupI)] = some (.bl (rising rows)) := F_rising_ok (by rw [allW_len h]; omega)
    have e3 : mNot (mTru (mCall F_is_rising (mCons (mVar 1) mNil))) [DE.pu (.lst (zs.map .str)), DE.pu (.lst (rows.map tupI)), DE.un] = some (!rising rows) := ev_not (ev_tru ((ev_call (ev_cons rfl rfl)).trans er))
    have e4 := (ev_or_f (b := mNot (mTru (mCall F_is_rising (mCons (mVar 1) mNil)))) e2).trans e3
    unfold placesW
    rw [h]
    cases hr : rising rows with
    | true =>
      rw [hr] at e4
      rw [ev_if_f e4]
      simp [hr, optP, optD, rowsD, mVar]
    | false =>
      rw [hr] at e4
      rw [ev_if_t e4]
      simp [hr, optP, optD, rowsD, mC]
def g0 (z : Str) : Option D := (placeW z).map tupI
def g1 (z : Str) : Option D := (placesW (Txt.split z " ")).map rowsD
theorem F_words_ok {z : Str} (h : small z) : F_words_of [.str z] = some (.lst ((Txt.split z " ").map .str)) := by
  refine ev_runF rfl (ev_ret ?_)
  show splitD (.str z) [.str " "] = _
  exact splitD_ok tl_sp (big_of h)
theorem F_lines_ok {z : Str} (h : small z) : F_lines_of [.str z] = some (.lst ((Txt.split z "\n").map .str)) := by
  refine ev_runF rfl (ev_ret ?_)
  show splitD (.str z) [.str "\n"] = _
  exact splitD_ok tl_nl (big_of h)
theorem cut_many' {z b : Str} {s : Nat} (hb : tl b = [s]) (hs : s < 256) (h : small z) : (Txt.split z b).length ≤ 1000001 := by
  have h1 := cut_len (z := z) hb hs
  have h2 : z.length ≤ 1000000 := h
  omega
theorem F_line_ok {z : Str} (h : small z) : F_places_line [.str z] = some (optD id (g1 z)) := by
  refine ev_runF rfl (ev_ret ?_)
  show mCall F_places_of (mCons (mCall F_words_of (mCons (mVar 0) mNil)) mNil) [DE.pu (.str z)] = _
  have e : mCall F_words_of (mCons (mVar 0) mNil) [DE.pu (.str z)] = some (.lst ((Txt.split z " ").map .str)) := (ev_call (ev_cons rfl rfl)).trans (F_words_ok h)
  rw [ev_call (ev_cons e rfl), F_places_ok (cut_many' tl_sp (by decide) h) (small_cut tl_sp (by decide) h)]
  unfold g1 optP
  cases placesW (Txt.split z " ") <;> rfl
theorem F_place_ok' {z : Str} (h : small z) : F_place_of [.str z] = some (optD id (g0 z)) := by
  rw [F_place_ok h]
  unfold g0 optT
  cases placeW z <;> rfl
/-- what the lines give, or the first line that gives nothing -/
def runLines (g : Str → Option D) : Nat → List Str → Except Nat (List D)
  | _, [] => .ok []
  | i, l :: r => match g l with
    | none => .error i
    | some d => match runLines g (i + 1) r with
      | .ok ds => .ok (d :: ds)
      | .error k => .error k
def outW (g : Str → Option D) (z : Str) : Except Nat D := match runLines g 0 (Txt.split z "\n") with
  | .error k => .error k
  | .ok ds => if 1 < ds.length then .error 1 else .ok (ds.headD .non)
theorem run_len {g : Str → Option D} : ∀ {ls : List Str} {i : Nat} {ds : List D}, runLines g i ls = .ok ds → ds.length = ls.length
  | [], i, ds, h => by cases h; rfl
  | l :: r, i, ds, h => by
    unfold runLines at h
    split at h
    · cases h
    · split at h
      · rename_i e
        cases h
        simp [run_len e]
      · cases h
theorem enum_step (i : Nat) (l : Str) (r : List Str) : zipD ((List.range' i (l :: r).length).map fun (i : Nat) => D.int (i : Int)) ((l :: r).map D.str) = .tup [.int (i : Int), .str l] :: zipD ((List.range' (i + 1) r.length).map fun (i : Nat) => D.int (i : Int)) (r.map D.str) := rfl
theorem enum_eq (ls : List Str) : enumD (ls.map D.str) = zipD ((List.range' 0 ls.length).map fun (i : Nat) => D.int (i : Int)) (ls.map D.str) := by
  unfold enumD rangeD
  rw [List.length_map, List.range_eq_range']
  simp
section
variable {Tb : Addr → Option (List D → Option D)} {C f : Addr} {F : List D → Option D} {g : Str → Option D}
theorem for_lines (hF : Tb f = some F) (hg : ∀ l, small l → F [.str l] = some (optD id (g l))) (hn : ∀ l d, g l = some d → isND d .non = some (.bl false)) (z : Str) : ∀ (ls : List Str) (i : Nat) (acc : List D) (x y t : DE), acc.length + ls.length ≤ big → (∀ l ∈ ls, small l) →
    (∀ ds, runLines g i ls = .ok ds → ∃ x' y' t', forL (gT [3, 4]) (mSeq (mAsg 5 (mCallA 1 Tb (mCons (mVar 4) mNil))) (mSeq (mIfS (mTest (mOp isND (mVar 5) (mC .non))) (mRaise C "line" (mVar 3)) mNext) (mApp 2 (mVar 5)))) (zipD ((List.range' i ls.length).map fun (i : Nat) => D.int (i : Int)) (ls.map D.str)) [.pu (.str z), .pu (.ref f), .ow acc, x, y, t] = some (.nx [.pu (.str z), .pu (.ref f), .ow (acc ++ ds), x', y', t'])) ∧
    (∀ k, runLines g i ls = .error k → ∃ ρ, forL (gT [3, 4]) (mSeq (mAsg 5 (mCallA 1 Tb (mCons (mVar 4) mNil))) (mSeq (mIfS (mTest (mOp isND (mVar 5) (mC .non))) (mRaise C "line" (mVar 3)) mNext) (mApp 2 (mVar 5)))) (zipD ((List.range' i ls.length).map fun (i : Nat) => D.int (i : Int)) (ls.map D.str)) [.pu (.str z), .pu (.ref f), .ow acc, x, y, t] = some (.ex C "line" (.int (k : Int)) ρ))
  | [], i, acc, x, y, t, hl, hs => ⟨fun ds h => by cases h; exact ⟨x, y, t, by rw [List.append_nil]; rfl⟩, fun k h => by cases h⟩
  | l :: r, i, acc, x, y, t, hl, hs => by
    rw [enum_step]
    have hb : ∀ (u : DE), mCallA 1 Tb (mCons (mVar 4) mNil) [.pu (.str z), .pu (.ref f), .ow acc, .pu (.int (i : Int)), .pu (.str l), u] = some (optD id (g l)) := fun u => by
      show (Tb f).bind (fun F => F [.str l]) = _
      rw [hF]
      exact hg l (hs l (by simp))
    have hst : ∀ o, (mSeq (mAsg 5 (mCallA 1 Tb (mCons (mVar 4) mNil))) (mSeq (mIfS (mTest (mOp isND (mVar 5) (mC .non))) (mRaise C "line" (mVar 3)) mNext) (mApp 2 (mVar 5)))) [.pu (.str z), .pu (.ref f), .ow acc, .pu (.int (i : Int)), .pu (.str l), t] = some o →
        forL (gT [3, 4]) (mSeq (mAsg 5 (mCallA 1 Tb (mCons (mVar 4) mNil))) (mSeq (mIfS (mTest (mOp isND (mVar 5) (mC .non))) (mRaise C "line" (mVar 3)) mNext) (mApp 2 (mVar 5)))) (.tup [.int (i : Int), .str l] :: zipD ((List.range' (i + 1) r.length).map fun (i : Nat) => D.int (i : Int)) (r.map D.str)) [.pu (.str z), .pu (.ref f), .ow acc, x, y, t] =
        match o with
        | .nx ρ' => forL (gT [3, 4]) (mSeq (mAsg 5 (mCallA 1 Tb (mCons (mVar 4) mNil))) (mSeq (mIfS (mTest (mOp isND (mVar 5) (mC .non))) (mRaise C "line" (mVar 3)) mNext) (mApp 2 (mVar 5)))) (zipD ((List.range' (i + 1) r.length).map fun (i : Nat) => D.int (i : Int)) (r.map D.str)) ρ'
        | .ct ρ' => forL (gT [3, 4]) (mSeq (mAsg 5 (mCallA 1 Tb (mCons (mVar 4) mNil))) (mSeq (mIfS (mTest (mOp isND (mVar 5) (mC .non))) (mRaise C "line" (mVar 3)) mNext) (mApp 2 (mVar 5)))) (zipD ((List.range' (i + 1) r.length).map fun (i : Nat) => D.int (i : Int)) (r.map D.str)) ρ'
        | .bk ρ' => some (.nx ρ')
        | o => some o := fun o h => by
      show ((mSeq _ _) [.pu (.str z), .pu (.ref f), .ow acc, .pu (.int (i : Int)), .pu (.str l), t]).bind _ = _
      rw [h]
      cases o <;> rfl
    have he : (mSeq (mAsg 5 (mCallA 1 Tb (mCons (mVar 4) mNil))) (mSeq (mIfS (mTest (mOp isND (mVar 5) (mC .non))) (mRaise C "line" (mVar 3)) mNext) (mApp 2 (mVar 5)))) [.pu (.str z), .pu (.ref f), .ow acc, .pu (.int (i : Int)), .pu (.str l), t] =
        (mSeq (mIfS (mTest (mOp isND (mVar 5) (mC .non))) (mRaise C "line" (mVar 3)) mNext) (mApp 2 (mVar 5))) [.pu (.str z), .pu (.ref f), .ow acc, .pu (.int (i : Int)), .pu (.str l), .pu (optD id (g l))] := ev_seq (ev_asg (hb t))
    cases hgl : g l with
    | none =>
      rw [hgl] at he
      have h1 := hst _ (he.trans (ev_seq_ex (ρ' := [.pu (.str z), .pu (.ref f), .ow acc, .pu (.int (i : Int)), .pu (.str l), .pu .non]) (d := .int (i : Int)) ((ev_ifS_t rfl).trans rfl)))
      refine ⟨fun ds h => ?_, fun k h => ?_⟩
      · unfold runLines at h
        rw [hgl] at h
        cases h
      · unfold runLines at h
        rw [hgl] at h
        cases h
        exact ⟨_, h1⟩
    | some d =>
      rw [hgl] at he
      have ht : mTest (mOp isND (mVar 5) (mC .non)) [.pu (.str z), .pu (.ref f), .ow acc, .pu (.int (i : Int)), .pu (.str l), .pu d] = some false := by
        rw [ev_test ((ev_op rfl rfl).trans (hn l d hgl))]
        rfl
      have ha : mApp 2 (mVar 5) [.pu (.str z), .pu (.ref f), .ow acc, .pu (.int (i : Int)), .pu (.str l), .pu d] = some (.nx [.pu (.str z), .pu (.ref f), .ow (acc ++ [d]), .pu (.int (i : Int)), .pu (.str l), .pu d]) := by
        show (if acc.length < big then some (Out.nx [.pu (.str z), .pu (.ref f), .ow (acc ++ [d]), .pu (.int (i : Int)), .pu (.str l), .pu d]) else none) = _
        rw [if_pos (by simp at hl; omega)]
      have h1 := hst _ (he.trans ((ev_seq ((ev_ifS_f ht).trans rfl)).trans ha))
      obtain ⟨i1, i2⟩ := for_lines hF hg hn z r (i + 1) (acc ++ [d]) (.pu (.int (i : Int))) (.pu (.str l)) (.pu d) (by simp at hl ⊢; omega) (fun l hm => hs l (by simp [hm]))
      refine ⟨fun ds h => ?_, fun k h => ?_⟩
      · unfold runLines at h
        rw [hgl] at h
        dsimp only at h
        split at h
        · rename_i ds' e
          cases h
          obtain ⟨x', y', t', e'⟩ := i1 ds' e
          refine ⟨x', y', t', h1.trans ?_⟩
          rw [List.append_assoc, List.singleton_append] at e'
          exact e'
        · cases h
      · unfold runLines at h
        rw [hgl] at h
        dsimp only at h
        split at h
        · cases h
        · rename_i k' e
          cases h
          obtain ⟨ρ, e'⟩ := i2 k e
          exact ⟨ρ, h1.trans e'⟩
end
end K85

set_option Elab.async false
set_option linter.all false
set_option maxRecDepth 100000
set_option maxHeartbeats 4000000
namespace K85
open PySem PySem.Spec PyProof.Rows L2 Evl DD
/-! M6: read_one, the notes, what is due -/
theorem ev_runX {N : List Str} {n : Nat} {m : MS} {ds : List D} {d : D} (hn : ds.length = n) (h : m (startD N ds) = some (.rt d)) : runX N n m ds = some (.ok d) := by
  unfold runX
  rw [if_pos hn, h]
theorem ev_runXx {N : List Str} {n : Nat} {m : MS} {ds : List D} {C : Addr} {f : Str} {x : D} {ρ : DEnv} (hn : ds.length = n) (h : m (startD N ds) = some (.ex C f x ρ)) : runX N n m ds = some (.ex C f x) := by
  unfold runX
  rw [if_pos hn, h]
theorem ev_asgX {i : Nat} {m : MX} {ρ : DEnv} {d : D} (h : m ρ = some (.ok d)) : mAsgX i m ρ = some (.nx (ρ.set i (.pu d))) := by
  unfold mAsgX
  rw [h]
  rfl
theorem ev_asgXx {i : Nat} {m : MX} {ρ : DEnv} {C : Addr} {f : Str} {x : D} (h : m ρ = some (.ex C f x)) : mAsgX i m ρ = some (.ex C f x ρ) := by
  unfold mAsgX
  rw [h]
  rfl
theorem ev_retX {m : MX} {ρ : DEnv} {d : D} (h : m ρ = some (.ok d)) : mRetX m ρ = some (.rt d) := by
  unfold mRetX
  rw [h]
  rfl
theorem ev_retXx {m : MX} {ρ : DEnv} {C : Addr} {f : Str} {x : D} (h : m ρ = some (.ex C f x)) : mRetX m ρ = some (.ex C f x ρ) := by
  unfold mRetX
  rw [h]
  rfl
theorem ev_callX {F : List D → Option Res} {m : MA} {ρ : DEnv} {ds : List D} (h : m ρ = some ds) : mCallX F m ρ = F ds := by
  unfold mCallX
  rw [h]
  rfl
def resX (C : Addr) : Except Nat D → Res
  | .ok d => .ok d
  | .error k => .ex C "line" (.int (k : Int))
def noteX : Except Nat D → D
  | .ok d => d
  | .error k => .tup [.str "bad", .int (k : Int)]
section
variable {Tb : Addr → Option (List D → Option D)} {C f : Addr} {F : List D → Option D} {g : Str → Option D}
def resL (C : Addr) : Except Nat (List D) → Res
  | .ok ds => .ok (.lst ds)
  | .error k => .ex C "line" (.int (k : Int))
theorem F_readLines_ok (hF : Tb f = some F) (hg : ∀ l, small l → F [.str l] = some (optD id (g l))) (hn : ∀ l d, g l = some d → isND d .non = some (.bl false)) {z : Str} (h : small z) :
    F_read_lines Tb C [.str z, .ref f] = some (resL C (runLines g 0 (Txt.split z "\n"))) := by
  have hb : (Txt.split z "\n").length ≤ big := by
    have := cut_many' (z := z) tl_nl (by decide) h
    rw [big_eq]
    omega
  obtain ⟨i1, i2⟩ := for_lines (C := C) hF hg hn z (Txt.split z "\n") 0 [] .un .un .un (by simpa using hb) (small_cut tl_nl (by decide) h)
  have e0 : mEnum (mCons (mCall F_lines_of (mCons (mVar 0) mNil)) mNil) [.pu (.str z), .pu (.ref f), .ow [], .un, .un, .un] = some (zipD ((List.range' 0 (Txt.split z "\n").length).map fun (i : Nat) => D.int (i : Int)) ((Txt.split z "\n").map D.str)) := by
    unfold mEnum
    rw [ev_cons ((ev_call (ev_cons rfl rfl)).trans (F_lines_ok h)) rfl]
    show some (enumD _) = _
    rw [enum_eq]
  have e1 : m_read_lines Tb C [.pu (.str z), .pu (.ref f), .un, .un, .un, .un] = (mSeq (mFor (mEnum (mCons (mCall F_lines_of (mCons (mVar 0) mNil)) mNil)) (gT [3, 4]) (mSeq (mAsg 5 (mCallA 1 Tb (mCons (mVar 4) mNil))) (mSeq (mIfS (mTest (mOp isND (mVar 5) (mC .non))) (mRaise C "line" (mVar 3)) mNext) (mApp 2 (mVar 5))))) (fun ρ => (mRet (mVar 2)) (frz 2 ρ))) [.pu (.str z), .pu (.ref f), .ow [], .un, .un, .un] := rfl
  have e2 : mFor (mEnum (mCons (mCall F_lines_of (mCons (mVar 0) mNil)) mNil)) (gT [3, 4]) (mSeq (mAsg 5 (mCallA 1 Tb (mCons (mVar 4) mNil))) (mSeq (mIfS (mTest (mOp isND (mVar 5) (mC .non))) (mRaise C "line" (mVar 3)) mNext) (mApp 2 (mVar 5)))) [.pu (.str z), .pu (.ref f), .ow [], .un, .un, .un] =
      forL (gT [3, 4]) (mSeq (mAsg 5 (mCallA 1 Tb (mCons (mVar 4) mNil))) (mSeq (mIfS (mTest (mOp isND (mVar 5) (mC .non))) (mRaise C "line" (mVar 3)) mNext) (mApp 2 (mVar 5)))) (zipD ((List.range' 0 (Txt.split z "\n").length).map fun (i : Nat) => D.int (i : Int)) ((Txt.split z "\n").map D.str)) [.pu (.str z), .pu (.ref f), .ow [], .un, .un, .un] := by
    unfold mFor
    rw [e0]
    rfl
  cases hr : runLines g 0 (Txt.split z "\n") with
  | ok ds =>
    obtain ⟨x, y, t, e3⟩ := i1 ds hr
    refine ev_runX rfl ?_
    show m_read_lines Tb C [.pu (.str z), .pu (.ref f), .un, .un, .un, .un] = _
    rw [e1, ev_seq (e2.trans e3)]
    rfl
  | error k =>
    obtain ⟨ρ, e3⟩ := i2 k hr
    refine ev_runXx (ρ := ρ) rfl ?_
    show m_read_lines Tb C [.pu (.str z), .pu (.ref f), .un, .un, .un, .un] = _
    rw [e1, ev_seq_ex (e2.trans e3)]
theorem F_readOne_ok (hF : Tb f = some F) (hg : ∀ l, small l → F [.str l] = some (optD id (g l))) (hn : ∀ l d, g l = some d → isND d .non = some (.bl false)) {z : Str} (h : small z) :
    F_read_one Tb C [.str z, .ref f] = some (resX C (outW g z)) := by
  have e := F_readLines_ok (C := C) hF hg hn h
  have e0 : mCallX (F_read_lines Tb C) (mCons (mVar 0) (mCons (mVar 1) mNil)) [.pu (.str z), .pu (.ref f), .un] = some (resL C (runLines g 0 (Txt.split z "\n"))) := (ev_callX (ev_cons rfl (ev_cons rfl rfl))).trans e
  unfold outW
  cases hr : runLines g 0 (Txt.split z "\n") with
  | error k =>
    rw [hr] at e0
    refine ev_runXx (ρ := [.pu (.str z), .pu (.ref f), .un]) rfl ?_
    show m_read_one Tb C [.pu (.str z), .pu (.ref f), .un] = _
    unfold m_read_one
    rw [ev_seq_ex (ev_asgXx e0)]
  | ok ds =>
    rw [hr] at e0
    have hl := run_len hr
    have hp := (cut_facts (z := z) tl_nl (by decide)).2.2
    have e1 : m_read_one Tb C [.pu (.str z), .pu (.ref f), .un] = (mSeq (mIfS (mTest (mOp gtD (mCall lenD (mCons (mVar 2) mNil)) (mC (.int 1)))) (mRaise C "line" (mC (.int 1))) mNext) (mRet (mOp ixD (mVar 2) (mC (.int 0))))) [.pu (.str z), .pu (.ref f), .pu (.lst ds)] := by
      unfold m_read_one
      rw [ev_seq (ev_asgX e0)]
      rfl
    have e2 : mTest (mOp gtD (mCall lenD (mCons (mVar 2) mNil)) (mC (.int 1))) [.pu (.str z), .pu (.ref f), .pu (.lst ds)] = some (decide (1 < ds.length)) := by
      show some (decide ((1 : Int) < (ds.length : Int))) = _
      congr 1
      rw [Bool.eq_iff_iff, decide_eq_true_eq, decide_eq_true_eq]
      omega
    by_cases h1 : 1 < ds.length
    · rw [decide_eq_true h1] at e2
      refine (ev_runXx (x := .int 1) (ρ := [.pu (.str z), .pu (.ref f), .pu (.lst ds)]) rfl ?_).trans (by dsimp only; rw [if_pos h1]; rfl)
      show m_read_one Tb C [.pu (.str z), .pu (.ref f), .un] = _
      rw [e1, ev_seq_ex ((ev_ifS_t e2).trans rfl)]
    · rw [decide_eq_false h1] at e2
      have : ∃ d, ds = [d] := by
        match ds, hl, h1 with
        | [], hl, _ => simp at hl; omega
        | [d], _, _ => exact ⟨d, rfl⟩
        | _ :: _ :: _, _, h1 => simp at h1
      obtain ⟨d, rfl⟩ := this
      refine (ev_runX (d := d) rfl ?_).trans rfl
      show m_read_one Tb C [.pu (.str z), .pu (.ref f), .un] = _
      rw [e1, ev_seq ((ev_ifS_f e2).trans rfl)]
      rfl
end
theorem g0_not {l : Str} {d : D} (h : g0 l = some d) : isND d .non = some (.bl false) := by
  obtain ⟨ns, _, rfl⟩ := Option.map_eq_some_iff.mp h
  rfl
theorem g1_not {l : Str} {d : D} (h : g1 l = some d) : isND d .non = some (.bl false) := by
  obtain ⟨ns, _, rfl⟩ := Option.map_eq_some_iff.mp h
  rfl
section
variable {Tb : Addr → Option (List D → Option D)} {C f_place_of f_places_line : Addr}
theorem F_readPlace_ok (hF : Tb f_place_of = some F_place_of) {z : Str} (h : small z) : F_read_place f_place_of Tb C [.str z] = some (resX C (outW g0 z)) := by
  have e : mCallX (F_read_one Tb C) (mCons (mVar 0) (mCons (mC (.ref f_place_of)) mNil)) [.pu (.str z)] = some (resX C (outW g0 z)) := (ev_callX (ev_cons rfl (ev_cons rfl rfl))).trans (F_readOne_ok hF (fun l hl => F_place_ok' hl) (fun l d hl => g0_not hl) h)
  cases ho : outW g0 z with
  | ok d =>
    rw [ho] at e
    exact ev_runX rfl (ev_retX e)
  | error k =>
    rw [ho] at e
    exact ev_runXx rfl (ev_retXx e)
end
end K85

set_option Elab.async false
set_option linter.all false
set_option maxRecDepth 100000
set_option maxHeartbeats 4000000
namespace K85
open PySem PySem.Spec PyProof.Rows L2 Evl DD
/-! M7: what a note gives, what is due -/
def outK (k : Bool) (z : Str) : Except Nat D := if k = true then (if z = "" then .ok (.lst []) else outW g1 z) else outW g0 z
def kI (k : Bool) : Int := if k = true then 1 else 0
section
variable {Tb : Addr → Option (List D → Option D)} {C f_place_of f_places_line f_read_place f_read_places : Addr} {TX : Addr → Option (List D → Option Res)}
theorem F_readPlaces_ok (hF : Tb f_places_line = some F_places_line) {z : Str} (h : small z) : F_read_places f_places_line Tb C [.str z] = some (resX C (outK true z)) := by
  have e0 : mTest (mOp eqD (mVar 0) (mC (.str ""))) [.pu (.str z)] = some (decide (z = "")) := by
    rw [ev_test ((ev_op rfl rfl).trans (eqD_str z ""))]
    rfl
  have e : mCallX (F_read_one Tb C) (mCons (mVar 0) (mCons (mC (.ref f_places_line)) mNil)) [.pu (.str z)] = some (resX C (outW g1 z)) := (ev_callX (ev_cons rfl (ev_cons rfl rfl))).trans (F_readOne_ok hF (fun l hl => F_line_ok hl) (fun l d hl => g1_not hl) h)
  have e2 : mIfX (mTest (mOp eqD (mVar 0) (mC (.str "")))) (mOk (mLst (few mNil))) (mCallX (F_read_one Tb C) (mCons (mVar 0) (mCons (mC (.ref f_places_line)) mNil))) [.pu (.str z)] = some (resX C (outK true z)) := by
    unfold mIfX
    rw [e0]
    by_cases hz : z = ""
    · subst hz
      rfl
    · rw [decide_eq_false hz]
      refine e.trans ?_
      unfold outK
      rw [if_pos rfl, if_neg hz]
  cases ho : outK true z with
  | ok d =>
    rw [ho] at e2
    exact ev_runX rfl (ev_retX e2)
  | error k =>
    rw [ho] at e2
    exact ev_runXx rfl (ev_retXx e2)
theorem note_out {F : List D → Option Res} {f : Addr} {k : Bool} {z : Str} {o : Except Nat D} (hx : TX f = some F) (hf : mOp ixD (mLst (few (mCons (mC (.ref f_read_place)) (mCons (mC (.ref f_read_places)) mNil)))) (mVar 0) [.pu (.int (kI k)), .pu (.str z), .un] = some (.ref f)) (hF : F [.str z] = some (resX C o)) :
    F__law_note C f_read_places f_read_place TX [.int (kI k), .str z] = some (noteX o) := by
  have e : mCallV TX (mOp ixD (mLst (few (mCons (mC (.ref f_read_place)) (mCons (mC (.ref f_read_places)) mNil)))) (mVar 0)) (mCons (mVar 1) mNil) [.pu (.int (kI k)), .pu (.str z), .un] = some (resX C o) := by
    unfold mCallV
    rw [hf]
    show (TX f).bind (fun F => F [.str z]) = _
    rw [hx]
    exact hF
  refine ev_runF rfl ?_
  show m__law_note C f_read_places f_read_place TX [.pu (.int (kI k)), .pu (.str z), .un] = _
  unfold m__law_note mNote
  rw [if_pos (by show 2 < 3; decide), e]
  cases o with
  | ok d => rfl
  | error n =>
    show (if C = C ∧ ("line" : Str) = "line" then _ else none) = _
    rw [if_pos ⟨rfl, rfl⟩]
    rfl
theorem F_note_ok (hF0 : Tb f_place_of = some F_place_of) (hF1 : Tb f_places_line = some F_places_line) (h0 : TX f_read_place = some (F_read_place f_place_of Tb C)) (h1 : TX f_read_places = some (F_read_places f_places_line Tb C)) {z : Str} (h : small z) (k : Bool) :
    F__law_note C f_read_places f_read_place TX [.int (kI k), .str z] = some (noteX (outK k z)) := by
  cases k with
  | true => exact note_out h1 rfl (F_readPlaces_ok hF1 h)
  | false => exact note_out h0 rfl (F_readPlace_ok hF0 h)
end
/-! ### a place has no space -/
theorem spl_keeps (s c : Nat) (hc : c ≠ s) : ∀ (l acc : List Nat), c ∈ acc ∨ c ∈ l → ∃ p ∈ TL.spl [s] 0 acc l, c ∈ p
  | [], acc, h => ⟨acc, by rw [TL.spl_nil]; simp, by simpa using h⟩
  | x :: l, acc, h => by
    by_cases e : x = s
    · have hp : TL.pre [s] (x :: l) = true := by rw [pre_one, e]; simp
      rw [TL.spl_hit hp]
      rcases h with h | h
      · exact ⟨acc, by simp, h⟩
      · have : c ∈ l := by
          rcases List.mem_cons.mp h with h | h
          · exact absurd (h.trans e) hc
          · exact h
        obtain ⟨p, h1, h2⟩ := spl_keeps s c hc l [] (.inr this)
        exact ⟨p, List.mem_cons_of_mem _ h1, h2⟩
    · have hp : TL.pre [s] (x :: l) = false := by rw [pre_one]; simp [e]
      rw [TL.spl_miss hp]
      refine spl_keeps s c hc l (acc ++ [x]) ?_
      rcases h with h | h
      · exact .inl (by simp [h])
      · rcases List.mem_cons.mp h with h | h
        · exact .inl (by simp [h])
        · exact .inr h
theorem allW_none {α β : Type} {f : α → Option β} : ∀ {zs : List α} {z : α}, z ∈ zs → f z = none → allW f zs = none
  | x :: r, z, hz, h => by
    rcases List.mem_cons.mp hz with e | hz
    · subst e
      unfold allW
      rw [h]
      rfl
    · have := allW_none (f := f) hz h
      unfold allW
      rw [this]
      cases f x <;> rfl
theorem place_space {z : Str} (h : 32 ∈ tl z) : placeW z = none := by
  have hz : z ≠ "." := fun e => by
    rw [e, tl_dot] at h
    simp at h
  unfold placeW
  rw [if_neg hz]
  have e := cut_tl (z := z) tl_dot (by decide)
  obtain ⟨p, h1, h2⟩ := spl_keeps 46 32 (by decide) (tl z) [] (.inr h)
  rw [← e] at h1
  obtain ⟨w, hw, rfl⟩ := List.mem_map.mp h1
  refine allW_none hw ?_
  unfold numW
  rw [if_neg]
  intro hn
  simp only [isNum, Bool.and_eq_true, decide_eq_true_eq] at hn
  have := List.all_eq_true.mp hn.1.2 32 h2
  simp [isDig] at this
/-! ### what is due -/
def gK (k : Bool) : Str → Option D := if k = true then g1 else g0
abbrev mTold : MA := mLc (mItems (mMeth splitD (mVar 3) (mCons (mC (.str " ")) mNil))) (gN 5) mYes (mCall F__law_place_told (mCons (mVar 5) mNil)) [5]
abbrev mDueC : MT := mOr (mTest (mOp inD (mC .non) (mVar 4))) (mOr (mAnd (mTest (mOp eqD (mVar 0) (mC (.int 0)))) (mTest (mOp gtD (mCall lenD (mCons (mVar 4) mNil)) (mC (.int 1))))) (mTest (mOp notND (mCall F__law_rising (mCons (mVar 4) mNil)) (mC .non))))
abbrev mDueA : ME := mOp ixD (mLst (few (mCons (mVar 4) (mCons (mOp ixD (mVar 4) (mC (.int 0))) mNil)))) (mCall intF (mCons (mOp eqD (mVar 0) (mC (.int 0))) mNil))
abbrev mDueR : MS := fun ρ => (mRet (mTup (mCons (mC (.str "bad")) (mCons (mCall lenD (mCons (mVar 2) mNil)) mNil)))) (frz 2 ρ)
abbrev mDueB : MS := mSeq (mAsg 4 (mLst mTold)) (mSeq (mIfS mDueC mDueR mNext) (mApp 2 mDueA))
theorem eq_kind (k : Bool) : eqD (.int (kI k)) (.int 0) = some (.bl (!k)) := by
  cases k <;> rfl
theorem due_cond {k : Bool} {x1 x2 x5 : DE} {l : Str} (hs : small l) : mDueC [.pu (.int (kI k)), x1, x2, .pu (.str l), .pu (.lst (toldW (Txt.split l " "))), x5] = some (gK k l).isNone := by
  have hp := (cut_facts (z := l) tl_sp (by decide)).2.2
  have hm := cut_many' (z := l) tl_sp (by decide) hs
  have c1 : mTest (mOp inD (mC .non) (mVar 4)) [.pu (.int (kI k)), x1, x2, .pu (.str l), .pu (.lst (toldW (Txt.split l " "))), x5] = some (allW placeW (Txt.split l " ")).isNone := by
    rw [test_none rfl (told_opt _), told_any]
  have c2 : mTest (mOp eqD (mVar 0) (mC (.int 0))) [.pu (.int (kI k)), x1, x2, .pu (.str l), .pu (.lst (toldW (Txt.split l " "))), x5] = some (!k) := by
    rw [ev_test ((ev_op rfl rfl).trans (eq_kind k))]
    rfl
  have c3 : mTest (mOp gtD (mCall lenD (mCons (mVar 4) mNil)) (mC (.int 1))) [.pu (.int (kI k)), x1, x2, .pu (.str l), .pu (.lst (toldW (Txt.split l " "))), x5] = some (decide (1 < (Txt.split l " ").length)) := by
    show some (decide ((1 : Int) < ((toldW (Txt.split l " ")).length : Int))) = _
    congr 1
    rw [Bool.eq_iff_iff, decide_eq_true_eq, decide_eq_true_eq, toldW, List.length_map]
    omega
  cases ha : allW placeW (Txt.split l " ") with
  | none =>
    rw [ha] at c1
    rw [show mDueC _ = some true from ev_or_t c1]
    cases k with
    | true =>
      show _ = some (g1 l).isNone
      unfold g1 placesW
      rw [ha]
      rfl
    | false =>
      show _ = some (g0 l).isNone
      have : placeW l = none := by
        by_cases h : 32 ∈ tl l
        · exact place_space h
        · rw [split_none tl_sp (by decide) h] at ha
          unfold allW at ha
          cases hw : placeW l with
          | none => rfl
          | some ns => rw [hw] at ha; cases ha
      unfold g0
      rw [this]
      rfl
  | some rows =>
    rw [ha] at c1
    have ed : toldW (Txt.split l " ") = rows.map tupI := all_some ha
    have hlen := allW_len ha
    obtain ⟨d, hd, hn⟩ := F_lawRising_ok (rows := rows) (by omega)
    have c4 : mTest (mOp notND (mCall F__law_rising (mCons (mVar 4) mNil)) (mC .non)) [.pu (.int (kI k)), x1, x2, .pu (.str l), .pu (.lst (toldW (Txt.split l " "))), x5] = some (!rising rows) := by
      rw [ed]
      rw [ev_test ((ev_op ((ev_call (ev_cons rfl rfl)).trans hd) rfl).trans hn)]
      rfl
    rw [show mDueC _ = _ from ev_or_f c1]
    cases k with
    | true =>
      rw [ev_or_f (ev_and_f c2), c4]
      show _ = some (g1 l).isNone
      unfold g1 placesW
      rw [ha]
      cases h : rising rows <;> simp [h]
    | false =>
      show _ = some (g0 l).isNone
      by_cases h : 32 ∈ tl l
      · have h2 := split_many tl_sp (by decide) h
        rw [decide_eq_true (by omega)] at c3
        rw [ev_or_t ((ev_and_t c2).trans c3)]
        unfold g0
        rw [place_space h]
        rfl
      · have h1 := split_none tl_sp (by decide) h
        have hl1 : (Txt.split l " ").length = 1 := by rw [h1]; rfl
        rw [decide_eq_false (by omega)] at c3
        rw [ev_or_f ((ev_and_t c2).trans c3), c4]
        rw [h1] at ha
        unfold allW at ha
        cases hw : placeW l with
        | none => rw [hw] at ha; cases ha
        | some ns =>
          rw [hw] at ha
          cases ha
          unfold g0
          rw [hw]
          rfl
end K85

set_option Elab.async false
set_option linter.all false
set_option maxRecDepth 100000
set_option maxHeartbeats 4000000
namespace K85
open PySem PySem.Spec PyProof.Rows L2 Evl DD
/-! M8: _law_due, and that a note is what is due -/
theorem atI_zero {α : Type} (d : α) (ds : List α) : atI (d :: ds) 0 = some d := by
  have h : ((0 : Int) < ((d :: ds).length : Nat)) := by rw [List.length_cons]; omega
  unfold atI ixN
  rw [if_pos (Int.le_refl 0), if_pos h]
  rfl
theorem told_ok {x0 x1 x2 x4 : DE} {l : Str} (hs : small l) (hc : okC l) : mTold [x0, x1, x2, .pu (.str l), x4, .un] = some (toldW (Txt.split l " ")) := by
  rw [← told_map _ plD fun _ => rfl]
  refine lc_ev ?_ (by simp; have := cut_many' (z := l) tl_sp (by decide) hs; omega) (by simp) fun d hd => ?_
  · show (splitD (.str l) [.str " "]).bind itemsD = _
    rw [splitD_ok tl_sp (big_of hs)]
    rfl
  · obtain ⟨z, hz, rfl⟩ := List.mem_map.mp hd
    exact F_told_ok (small_cut tl_sp (by decide) hs z hz) (okC_cut tl_sp (by decide) hc z hz)
theorem told_ne (l : Str) : ∃ d ds, toldW (Txt.split l " ") = d :: ds := by
  have hp := (cut_facts (z := l) tl_sp (by decide)).2.2
  cases h : Txt.split l " " with
  | nil => rw [h] at hp; simp at hp
  | cons a r => exact ⟨_, _, rfl⟩
theorem due_app {k : Bool} {x1 x2 x5 : DE} {l : Str} {d : D} (h : gK k l = some d) : mDueA [.pu (.int (kI k)), x1, x2, .pu (.str l), .pu (.lst (toldW (Txt.split l " "))), x5] = some d := by
  obtain ⟨d0, ds, e⟩ := told_ne l
  have e1 : mOp ixD (mVar 4) (mC (.int 0)) [.pu (.int (kI k)), x1, x2, .pu (.str l), .pu (.lst (toldW (Txt.split l " "))), x5] = some d0 := by
    rw [ev_op rfl rfl, e]
    exact atI_zero d0 ds
  have e2 : mLst (few (mCons (mVar 4) (mCons (mOp ixD (mVar 4) (mC (.int 0))) mNil))) [.pu (.int (kI k)), x1, x2, .pu (.str l), .pu (.lst (toldW (Txt.split l " "))), x5] = some (.lst [.lst (toldW (Txt.split l " ")), d0]) := by
    refine ev_lst ?_
    unfold few
    rw [ev_cons rfl (ev_cons e1 rfl)]
    rfl
  have e3 : mCall intF (mCons (mOp eqD (mVar 0) (mC (.int 0))) mNil) [.pu (.int (kI k)), x1, x2, .pu (.str l), .pu (.lst (toldW (Txt.split l " "))), x5] = some (.int (if (!k) = true then 1 else 0)) := by
    rw [ev_call (ev_cons ((ev_op rfl rfl).trans (eq_kind k)) rfl)]
    rfl
  rw [show mDueA _ = _ from ev_op e2 e3]
  cases k with
  | true =>
    show some (D.lst (toldW (Txt.split l " "))) = _
    have h' : g1 l = some d := h
    unfold g1 placesW at h'
    cases ha : allW placeW (Txt.split l " ") with
    | none => rw [ha] at h'; cases h'
    | some rows =>
      rw [ha] at h'
      rw [show toldW (Txt.split l " ") = rows.map tupI from all_some ha]
      cases hr : rising rows with
      | true =>
        simp [hr] at h'
        rw [← h']
        rfl
      | false => simp [hr] at h'
  | false =>
    show some d0 = _
    have h' : g0 l = some d := h
    have hn : 32 ∉ tl l := fun hm => by
      unfold g0 at h'
      rw [place_space hm] at h'
      cases h'
    rw [split_none tl_sp (by decide) hn] at e
    have e' : optD tupI (placeW l) = d0 := (List.cons.inj e).1
    unfold g0 at h'
    cases hw : placeW l with
    | none => rw [hw] at h'; cases h'
    | some ns =>
      rw [hw] at h' e'
      rw [← e', ← h']
      rfl
theorem due_step {k : Bool} {z l : Str} {acc : List D} {y : DE} (hs : small l) (hc : okC l) (hb : acc.length < big) :
    mDueB [.pu (.int (kI k)), .pu (.str z), .ow acc, .pu (.str l), y, .un] = some (match gK k l with
      | none => .rt (.tup [.str "bad", .int (acc.length : Int)])
      | some d => .nx [.pu (.int (kI k)), .pu (.str z), .ow (acc ++ [d]), .pu (.str l), .pu (.lst (toldW (Txt.split l " "))), .un]) := by
  have e1 : mDueB [.pu (.int (kI k)), .pu (.str z), .ow acc, .pu (.str l), y, .un] = (mSeq (mIfS mDueC mDueR mNext) (mApp 2 mDueA)) [.pu (.int (kI k)), .pu (.str z), .ow acc, .pu (.str l), .pu (.lst (toldW (Txt.split l " "))), .un] := ev_seq (ev_asg (ev_lst (told_ok hs hc)))
  rw [e1]
  have ec := due_cond (k := k) (x1 := .pu (.str z)) (x2 := .ow acc) (x5 := .un) hs
  cases hg : gK k l with
  | none =>
    rw [hg] at ec
    rw [ev_seq_rt ((ev_ifS_t ec).trans rfl)]
  | some d =>
    rw [hg] at ec
    rw [ev_seq ((ev_ifS_f ec).trans rfl)]
    have ea := due_app (x1 := .pu (.str z)) (x2 := .ow acc) (x5 := .un) hg
    show (mDueA [.pu (.int (kI k)), .pu (.str z), .ow acc, .pu (.str l), .pu (.lst (toldW (Txt.split l " "))), .un]).bind (fun d => if acc.length < big then some (Out.nx [.pu (.int (kI k)), .pu (.str z), .ow (acc ++ [d]), .pu (.str l), .pu (.lst (toldW (Txt.split l " "))), .un]) else none) = _
    rw [ea]
    show (if acc.length < big then some (Out.nx [.pu (.int (kI k)), .pu (.str z), .ow (acc ++ [d]), .pu (.str l), .pu (.lst (toldW (Txt.split l " "))), .un]) else none) = _
    rw [if_pos hb]
theorem for_due {k : Bool} {z : Str} : ∀ (ls : List Str) (acc : List D) (x y : DE), acc.length + ls.length ≤ big → (∀ l ∈ ls, small l ∧ okC l) →
    (∀ ds, runLines (gK k) acc.length ls = .ok ds → ∃ x' y', forL (gN 3) mDueB (ls.map D.str) [.pu (.int (kI k)), .pu (.str z), .ow acc, x, y, .un] = some (.nx [.pu (.int (kI k)), .pu (.str z), .ow (acc ++ ds), x', y', .un])) ∧
    (∀ n, runLines (gK k) acc.length ls = .error n → forL (gN 3) mDueB (ls.map D.str) [.pu (.int (kI k)), .pu (.str z), .ow acc, x, y, .un] = some (.rt (.tup [.str "bad", .int (n : Int)])))
  | [], acc, x, y, hl, hs => ⟨fun ds h => by cases h; exact ⟨x, y, by rw [List.append_nil]; rfl⟩, fun k h => by cases h⟩
  | l :: r, acc, x, y, hl, hs => by
    obtain ⟨hs1, hs2⟩ := hs l (by simp)
    have hst : ∀ o, mDueB [.pu (.int (kI k)), .pu (.str z), .ow acc, .pu (.str l), y, .un] = some o → forL (gN 3) mDueB ((l :: r).map D.str) [.pu (.int (kI k)), .pu (.str z), .ow acc, x, y, .un] =
        match o with
        | .nx ρ' => forL (gN 3) mDueB (r.map D.str) ρ'
        | .ct ρ' => forL (gN 3) mDueB (r.map D.str) ρ'
        | .bk ρ' => some (.nx ρ')
        | o => some o := fun o h => by
      show (mDueB [.pu (.int (kI k)), .pu (.str z), .ow acc, .pu (.str l), y, .un]).bind _ = _
      rw [h]
      cases o <;> rfl
    have h1 := hst _ (due_step hs1 hs2 (by simp at hl; omega))
    cases hgl : gK k l with
    | none =>
      rw [hgl] at h1
      refine ⟨fun ds h => ?_, fun n h => ?_⟩
      · unfold runLines at h
        rw [hgl] at h
        cases h
      · unfold runLines at h
        rw [hgl] at h
        cases h
        exact h1
    | some d =>
      rw [hgl] at h1
      obtain ⟨i1, i2⟩ := for_due (k := k) (z := z) r (acc ++ [d]) (.pu (.str l)) (.pu (.lst (toldW (Txt.split l " ")))) (by simp at hl ⊢; omega) (fun l hm => hs l (by simp [hm]))
      rw [List.length_append] at i1 i2
      refine ⟨fun ds h => ?_, fun n h => ?_⟩
      · unfold runLines at h
        rw [hgl] at h
        dsimp only at h
        split at h
        · rename_i ds' e
          cases h
          obtain ⟨x', y', e'⟩ := i1 ds' e
          refine ⟨x', y', h1.trans ?_⟩
          rw [List.append_assoc, List.singleton_append] at e'
          exact e'
        · cases h
      · unfold runLines at h
        rw [hgl] at h
        dsimp only at h
        split at h
        · cases h
        · rename_i k' e
          cases h
          exact h1.trans (i2 n e)
abbrev mDueE : MS := fun ρ => (mSeq (mIfS (mTest (mOp gtD (mCall lenD (mCons (mVar 2) mNil)) (mC (.int 1)))) (mRet (mTup (mCons (mC (.str "bad")) (mCons (mC (.int 1)) mNil)))) mNext) (mRet (mOp ixD (mVar 2) (mC (.int 0))))) (frz 2 ρ)
theorem F_due_ok {z : Str} (h : small z) (hc : okC z) (k : Bool) : F__law_due [.int (kI k), .str z] = some (noteX (outK k z)) := by
  refine ev_runF rfl ?_
  show m__law_due [.pu (.int (kI k)), .pu (.str z), .un, .un, .un, .un] = _
  have c1 : mTest (mOp eqD (mVar 0) (mC (.int 1))) [.pu (.int (kI k)), .pu (.str z), .un, .un, .un, .un] = some k := by
    cases k <;> rfl
  have c2 : mTest (mOp eqD (mVar 1) (mC (.str ""))) [.pu (.int (kI k)), .pu (.str z), .un, .un, .un, .un] = some (decide (z = "")) := by
    rw [ev_test ((ev_op rfl rfl).trans (eqD_str z ""))]
    rfl
  have c3 : mAnd (mTest (mOp eqD (mVar 0) (mC (.int 1)))) (mTest (mOp eqD (mVar 1) (mC (.str "")))) [.pu (.int (kI k)), .pu (.str z), .un, .un, .un, .un] = some (k && decide (z = "")) := by
    cases k with
    | true => exact (ev_and_t c1).trans c2
    | false => exact ev_and_f c1
  have e0 : m__law_due = mSeq (mIfS (mAnd (mTest (mOp eqD (mVar 0) (mC (.int 1)))) (mTest (mOp eqD (mVar 1) (mC (.str ""))))) (mRet (mLst (few mNil))) mNext) (mSeq (mAsgO 2 (few mNil)) (mSeq (mFor (mItems (mMeth splitD (mVar 1) (mCons (mC (.str "\n")) mNil))) (gN 3) mDueB) mDueE)) := rfl
  by_cases h0 : (k && decide (z = "")) = true
  · rw [h0] at c3
    rw [e0, ev_seq_rt ((ev_ifS_t c3).trans rfl)]
    simp at h0
    unfold outK
    rw [if_pos h0.1, if_pos h0.2]
    rfl
  · have h0' : (k && decide (z = "")) = false := by simpa using h0
    rw [h0'] at c3
    have eo : outK k z = outW (gK k) z := by
      unfold outK gK
      cases k with
      | true =>
        have : z ≠ "" := by simpa using h0'
        rw [if_pos rfl, if_pos rfl, if_neg this]
      | false => rfl
    rw [e0, ev_seq ((ev_ifS_f c3).trans rfl), eo]
    have hb : (Txt.split z "\n").length ≤ big := by
      have := cut_many' (z := z) tl_nl (by decide) h
      rw [big_eq]
      omega
    obtain ⟨i1, i2⟩ := for_due (k := k) (z := z) (Txt.split z "\n") [] .un .un (by simpa using hb) (fun l hl => ⟨small_cut tl_nl (by decide) h l hl, okC_cut tl_nl (by decide) hc l hl⟩)
    have e1 : (mSeq (mAsgO 2 (few mNil)) (mSeq (mFor (mItems (mMeth splitD (mVar 1) (mCons (mC (.str "\n")) mNil))) (gN 3) mDueB) mDueE)) [.pu (.int (kI k)), .pu (.str z), .un, .un, .un, .un] = (mSeq (mFor (mItems (mMeth splitD (mVar 1) (mCons (mC (.str "\n")) mNil))) (gN 3) mDueB) mDueE) [.pu (.int (kI k)), .pu (.str z), .ow [], .un, .un, .un] := ev_seq rfl
    have e2 : mFor (mItems (mMeth splitD (mVar 1) (mCons (mC (.str "\n")) mNil))) (gN 3) mDueB [.pu (.int (kI k)), .pu (.str z), .ow [], .un, .un, .un] = forL (gN 3) mDueB ((Txt.split z "\n").map D.str) [.pu (.int (kI k)), .pu (.str z), .ow [], .un, .un, .un] := by
      show ((splitD (.str z) [.str "\n"]).bind itemsD).bind _ = _
      rw [splitD_ok tl_nl (big_of h)]
      rfl
    rw [e1]
    unfold outW
    cases hr : runLines (gK k) 0 (Txt.split z "\n") with
    | error n => rw [ev_seq_rt (e2.trans (i2 n hr))]; rfl
    | ok ds =>
      obtain ⟨x', y', e3⟩ := i1 ds hr
      rw [List.nil_append] at e3
      rw [ev_seq (e2.trans e3)]
      have hl := run_len hr
      have hp := (cut_facts (z := z) tl_nl (by decide)).2.2
      show (mSeq (mIfS (mTest (mOp gtD (mCall lenD (mCons (mVar 2) mNil)) (mC (.int 1)))) (mRet (mTup (mCons (mC (.str "bad")) (mCons (mC (.int 1)) mNil)))) mNext) (mRet (mOp ixD (mVar 2) (mC (.int 0))))) [.pu (.int (kI k)), .pu (.str z), .pu (.lst ds), x', y', .un] = _
      have e4 : mTest (mOp gtD (mCall lenD (mCons (mVar 2) mNil)) (mC (.int 1))) [.pu (.int (kI k)), .pu (.str z), .pu (.lst ds), x', y', .un] = some (decide (1 < ds.length)) := by
        show some (decide ((1 : Int) < (ds.length : Int))) = _
        congr 1
        rw [Bool.eq_iff_iff, decide_eq_true_eq, decide_eq_true_eq]
        omega
      dsimp only
      by_cases h1 : 1 < ds.length
      · rw [decide_eq_true h1] at e4
        rw [ev_seq_rt ((ev_ifS_t e4).trans rfl), if_pos h1]
        rfl
      · rw [decide_eq_false h1] at e4
        rw [ev_seq ((ev_ifS_f e4).trans rfl), if_neg h1]
        have : ∃ d, ds = [d] := by
          match ds, hl, h1 with
          | [], hl, _ => simp at hl; omega
          | [d], _, _ => exact ⟨d, rfl⟩
          | _ :: _ :: _, _, h1 => simp at h1
        obtain ⟨d, rfl⟩ := this
        rfl
end K85

set_option Elab.async false
set_option linter.all false
set_option maxRecDepth 100000
set_option maxHeartbeats 4000000
namespace K85
open PySem PySem.Spec PyProof.Rows L2 Evl DD
/-! M9: the data that are compared -/
/-- data that are equal to themselves, asked by == -/
def Even (d : D) : Prop := ∃ p, pd d = some p ∧ PyData.canLay0 p = true ∧ p.depth ≤ 64
theorem deep_even {d : D} (h : Even d) : deepD d d = some true := by
  obtain ⟨p, e, h1, h2⟩ := h
  have s : SeqAt.shaped p = true := by
    unfold SeqAt.shaped
    rw [h1, decide_eq_true h2]
    rfl
  unfold deepD
  rw [e]
  simp only [Option.bind_some, s, Bool.and_self, if_true]
  rw [SeqAt.eqv_refl p h1]
theorem neK_even {d : D} (h : Even d) : neKD d d = some (.bl false) := by
  unfold neKD
  rw [deep_even h]
  rfl
theorem pd_tupI (ns : List Int) : pd (tupI ns) = some (.tuple (ns.map .int)) := by
  simp [pd, tupI, pds_ints]
theorem pds_tups : ∀ rows : List (List Int), pds (rows.map tupI) = some (rows.map fun ns => .tuple (ns.map .int))
  | [] => rfl
  | r :: rows => by simp only [List.map_cons, pds, pd_tupI, pds_tups rows, Option.bind_some, Option.map_some]
theorem canLay_tups : ∀ rows : List (List Int), PyData.canLayAll0 (rows.map fun ns => PyData.tuple (ns.map .int)) = true
  | [] => rfl
  | r :: rows => by simp only [List.map_cons, PyData.canLayAll0, PyData.canLay0, canLay_ints, canLay_tups rows, Bool.and_self]
theorem depth_tups : ∀ rows : List (List Int), PyData.depthAll (rows.map fun ns => PyData.tuple (ns.map .int)) ≤ 1
  | [] => by simp [PyData.depthAll]
  | r :: rows => by
    have := depth_tups rows
    simp only [List.map_cons, PyData.depthAll, PyData.depth, depth_ints]
    omega
theorem even_tup (ns : List Int) : Even (tupI ns) := ⟨_, pd_tupI ns, by simp [PyData.canLay0, canLay_ints], by simp [PyData.depth, depth_ints]⟩
theorem even_rows (rows : List (List Int)) : Even (rowsD rows) := by
  refine ⟨.list (rows.map fun ns => .tuple (ns.map .int)), ?_, ?_, ?_⟩
  · simp only [rowsD, pd, pds_tups, Option.map_some]
  · simp only [PyData.canLay0, canLay_tups]
  · have := depth_tups rows
    simp only [PyData.depth]
    omega
theorem even_str {z : Str} (h : okC z) : Even (.str z) := by
  refine ⟨.str z, rfl, ?_, by simp [PyData.depth]⟩
  have : z.cps.toList.all (· < 0x110000) = true := List.all_eq_true.mpr fun c hc => by simpa using h c hc
  show PyData.strOk z = true
  unfold PyData.strOk
  simpa using this
theorem even_bad (n : Int) : Even (.tup [.str "bad", .int n]) := ⟨.tuple [.str "bad", .int n], by simp [pd, pds, pdV], by
  simp only [PyData.canLay0, PyData.canLayAll0]
  have : PyData.strOk "bad" = true := by decide +kernel
  rw [this]
  rfl, by simp [PyData.depth, PyData.depthAll]⟩
theorem run_mem {g : Str → Option D} : ∀ {ls : List Str} {i : Nat} {ds : List D}, runLines g i ls = .ok ds → ∀ d ∈ ds, ∃ l, g l = some d
  | [], i, ds, h, d, hd => by cases h; cases hd
  | l :: r, i, ds, h, d, hd => by
    unfold runLines at h
    split at h
    · cases h
    · rename_i d' e
      split at h
      · rename_i ds' e2
        cases h
        rcases List.mem_cons.mp hd with rfl | hd
        · exact ⟨l, e⟩
        · exact run_mem e2 d hd
      · cases h
theorem even_out {g : Str → Option D} (hg : ∀ l d, g l = some d → Even d) (z : Str) : Even (noteX (outW g z)) := by
  unfold outW
  cases hr : runLines g 0 (Txt.split z "\n") with
  | error k => exact even_bad _
  | ok ds =>
    dsimp only
    split
    · exact even_bad _
    · have hl := run_len hr
      have hp := (cut_facts (z := z) tl_nl (by decide)).2.2
      cases ds with
      | nil => simp at hl; omega
      | cons d ds =>
        obtain ⟨l, e⟩ := run_mem hr d (by simp)
        exact hg l d e
theorem even_note (k : Bool) (z : Str) : Even (noteX (outK k z)) := by
  unfold outK
  cases k with
  | true =>
    rw [if_pos rfl]
    split
    · exact even_rows []
    · refine even_out (fun l d h => ?_) z
      obtain ⟨rows, _, rfl⟩ := Option.map_eq_some_iff.mp h
      exact even_rows rows
  | false =>
    rw [if_neg (by decide)]
    refine even_out (fun l d h => ?_) z
    obtain ⟨rows, _, rfl⟩ := Option.map_eq_some_iff.mp h
    exact even_tup rows
def Deep : D → Prop
  | .val _ => False
  | _ => True
theorem ne_even {d : D} (h : Even d) (hd : Deep d) : neD d d = some (.bl false) := by
  have e : sameD d d = some true := by
    unfold sameD
    have : scalD d d = none := by
      cases d with
      | val v => exact hd.elim
      | lst _ => rfl
      | tup _ => rfl
    rw [this]
    exact deep_even h
  unfold neD
  rw [e]
  rfl
theorem deep_out {g : Str → Option D} (hg : ∀ l d, g l = some d → Deep d) (z : Str) : Deep (noteX (outW g z)) := by
  unfold outW
  cases hr : runLines g 0 (Txt.split z "\n") with
  | error k => exact trivial
  | ok ds =>
    dsimp only
    split
    · exact trivial
    · have hl := run_len hr
      have hp := (cut_facts (z := z) tl_nl (by decide)).2.2
      cases ds with
      | nil => simp at hl; omega
      | cons d ds =>
        obtain ⟨l, e⟩ := run_mem hr d (by simp)
        exact hg l d e
theorem deep_note (k : Bool) (z : Str) : Deep (noteX (outK k z)) := by
  unfold outK
  cases k with
  | true =>
    rw [if_pos rfl]
    split
    · exact trivial
    · refine deep_out (fun l d h => ?_) z
      obtain ⟨rows, _, rfl⟩ := Option.map_eq_some_iff.mp h
      exact trivial
  | false =>
    rw [if_neg (by decide)]
    refine deep_out (fun l d h => ?_) z
    obtain ⟨rows, _, rfl⟩ := Option.map_eq_some_iff.mp h
    exact trivial
/-- what the law needs of its table -/
structure TXOk (C f_read_places f_read_place : Addr) (TX : Addr → Option (List D → Option Res)) : Prop where
  n : ∀ (z : Str) (k : Bool), small z → F__law_note C f_read_places f_read_place TX [.int (kI k), .str z] = some (noteX (outK k z))
theorem txOk {Tb : Addr → Option (List D → Option D)} {C f_place_of f_places_line f_read_place f_read_places : Addr} {TX : Addr → Option (List D → Option Res)} (hF0 : Tb f_place_of = some F_place_of) (hF1 : Tb f_places_line = some F_places_line) (h0 : TX f_read_place = some (F_read_place f_place_of Tb C)) (h1 : TX f_read_places = some (F_read_places f_places_line Tb C)) : TXOk C f_read_places f_read_place TX :=
  ⟨fun z k h => F_note_ok hF0 hF1 h0 h1 h k⟩
end K85

set_option Elab.async false
set_option linter.all false
set_option maxRecDepth 100000
set_option maxHeartbeats 4000000
namespace K85
open PySem PySem.Spec PyProof.Rows L2 Evl DD
/-! M10: texts that are put together, bounded and of signs -/
structure Ok (n : Nat) (z : Str) : Prop where
  l : z.length ≤ n
  c : okC z
theorem Ok.mono {n m : Nat} {z : Str} (h : Ok n z) (hn : n ≤ m) : Ok m z := ⟨Nat.le_trans h.l hn, h.c⟩
theorem tl_app (x y : Str) : tl (x ++ y) = tl x ++ tl y := TL.tl_append x y
theorem Ok.app {a b : Nat} {x y : Str} (h : Ok a x) (h2 : Ok b y) : Ok (a + b) (x ++ y) := by
  refine ⟨?_, fun c hc => ?_⟩
  · rw [len_tl, tl_app, List.length_append, ← len_tl, ← len_tl]
    exact Nat.add_le_add h.l h2.l
  · rw [tl_app] at hc
    rcases List.mem_append.mp hc with hc | hc
    · exact h.c c hc
    · exact h2.c c hc
theorem Ok.cutS {n : Nat} {z : Str} (h : Ok n z) (lo hi : Option Int) : Ok n (L2.cutS z lo hi) := by
  have e : tl (L2.cutS z lo hi) = ((tl z).drop (HT.sIx z.length 0 lo)).take (HT.sIx z.length z.length hi - HT.sIx z.length 0 lo) := rfl
  refine ⟨?_, fun c hc => ?_⟩
  · rw [len_tl, e]
    have := h.l
    rw [len_tl] at this
    refine Nat.le_trans (List.length_take_le' _ _) ?_
    rw [List.length_drop]
    omega
  · rw [e] at hc
    exact h.c c (List.mem_of_mem_drop (List.mem_of_mem_take hc))
theorem joinL_mem {S : List Nat} {c : Nat} : ∀ {ps : List (List Nat)}, c ∈ TL.joinL S ps → c ∈ S ∨ ∃ p ∈ ps, c ∈ p
  | [], h => by cases h
  | [p], h => .inr ⟨p, by simp, h⟩
  | p :: q :: r, h => by
    have h' : c ∈ p ++ (S ++ TL.joinL S (q :: r)) := h
    rcases List.mem_append.mp h' with h | h
    · exact .inr ⟨p, by simp, h⟩
    · rcases List.mem_append.mp h with h | h
      · exact .inl h
      · rcases joinL_mem h with h | ⟨p', h1, h2⟩
        · exact .inl h
        · exact .inr ⟨p', by simp at h1 ⊢; exact .inr h1, h2⟩
theorem joinL_len {s : Nat} : ∀ ps : List (List Nat), (TL.joinL [s] ps).length ≤ (ps.map fun p => p.length + 1).sum
  | [] => by simp [TL.joinL]
  | [p] => by simp [TL.joinL]
  | p :: q :: r => by
    have ih := joinL_len (s := s) (q :: r)
    show (p ++ ([s] ++ TL.joinL [s] (q :: r))).length ≤ ((p :: q :: r).map fun p => p.length + 1).sum
    rw [List.map_cons, List.sum_cons, List.length_append, List.length_append]
    simp only [List.length_cons, List.length_nil] at ih ⊢
    omega
theorem tl_join (b : Str) (ys : List Str) : tl (Txt.join b ys) = TL.joinL (tl b) (ys.map tl) := by
  rw [TL.join_eq]
  exact TL.tl_join b ys
theorem wt_tl (ys : List Str) : ((ys.map tl).map fun p => p.length + 1).sum = wt ys := by
  unfold wt
  rw [List.map_map]
  refine congrArg List.sum ?_
  apply List.map_congr_left
  intro z _
  exact congrArg (· + 1) (len_tl z).symm
theorem okC_glue {b : Str} {ys : List Str} (hb : okC b) (h : ∀ y ∈ ys, okC y) : okC (Txt.join b ys) := fun c hc => by
  rw [tl_join] at hc
  rcases joinL_mem hc with hc | ⟨p, h1, h2⟩
  · exact hb c hc
  · obtain ⟨y, hy, rfl⟩ := List.mem_map.mp h1
    exact h y hy c h2
theorem Ok.join {b : Str} {s n : Nat} {ys : List Str} (hb : tl b = [s]) (hs : s < 256) (hn : wt ys ≤ n) (h : ∀ y ∈ ys, okC y) : Ok n (Txt.join b ys) := by
  refine ⟨?_, okC_glue (fun c hc => by rw [hb] at hc; simp at hc; omega) h⟩
  rw [len_tl, tl_join, hb]
  refine Nat.le_trans (joinL_len _) ?_
  rw [wt_tl]
  exact hn
theorem okC_sub {x : Str} {i j : Nat} (h : okC x) : okC (Builtin.Str.strSub x i j) := fun c hc => by
  have e : tl (Builtin.Str.strSub x i j) = ((tl x).drop i).take (j - i) := TL.tl_strSub x i j
  rw [e] at hc
  exact h c (List.mem_of_mem_drop (List.mem_of_mem_take hc))
theorem Ok.rep {a c : Nat} {x y z : Str} (hx : Ok a x) (hz : Ok c z) : Ok (a + c) (Txt.replace1 x y z) := by
  refine ⟨Nat.le_trans (replace1_len x y z) (Nat.add_le_add hx.l hz.l), ?_⟩
  unfold Txt.replace1
  split
  · exact hx.c
  · rw [StrLaws.glued_eq_join, ← TL.join_eq]
    refine okC_glue hz.c fun p hp => ?_
    unfold Builtin.Str.partsBetween at hp
    obtain ⟨⟨i, j⟩, _, rfl⟩ := List.mem_map.mp hp
    exact okC_sub hx.c
/-! ### weights -/
theorem wt_append (a b : List Str) : wt (a ++ b) = wt a + wt b := by simp [wt]
theorem wt_cons (a : Str) (b : List Str) : wt (a :: b) = a.length + 1 + wt b := by simp [wt]
theorem wt_take : ∀ (n : Nat) (a : List Str), wt (a.take n) ≤ wt a
  | 0, a => by simp [wt]
  | n + 1, [] => by simp
  | n + 1, z :: a => by
    have := wt_take n a
    rw [List.take_succ_cons, wt_cons, wt_cons]
    omega
theorem wt_drop : ∀ (n : Nat) (a : List Str), wt (a.drop n) ≤ wt a
  | 0, a => by simp
  | n + 1, [] => by simp
  | n + 1, z :: a => by
    have := wt_drop n a
    rw [List.drop_succ_cons, wt_cons]
    omega
theorem wt_rev : ∀ a : List Str, wt a.reverse = wt a
  | [] => rfl
  | z :: a => by
    rw [List.reverse_cons, wt_append, wt_rev a, wt_cons, wt_cons]
    simp [wt]
    omega
theorem wt_sum : ∀ ys : List Str, (ys.map (·.length)).sum + ys.length * 1 = wt ys
  | [] => rfl
  | y :: ys => by
    have := wt_sum ys
    rw [wt_cons, List.map_cons, List.sum_cons, List.length_cons]
    omega
/-! ### readings of texts and lists of texts -/
def Sx (n : Nat) (m : ME) (ρ : DEnv) : Prop := ∃ y, m ρ = some (.str y) ∧ Ok n y
def Lx (n : Nat) (m : ME) (ρ : DEnv) : Prop := ∃ ys : List Str, m ρ = some (.lst (ys.map .str)) ∧ wt ys ≤ n ∧ ∀ y ∈ ys, okC y
def Ax (n c : Nat) (m : MA) (ρ : DEnv) : Prop := ∃ ys : List Str, m ρ = some (ys.map .str) ∧ ys.length = c ∧ ∀ y ∈ ys, Ok n y
section
variable {ρ : DEnv} {m m1 m2 m3 : ME} {a b c n k : Nat} {lo hi : MO}
theorem Sx.mono (h : Sx n m ρ) (hn : n ≤ k) : Sx k m ρ := by
  obtain ⟨y, e, o⟩ := h
  exact ⟨y, e, o.mono hn⟩
theorem sx_add (h1 : Sx a m1 ρ) (h2 : Sx b m2 ρ) (hb : a + b ≤ 100000) : Sx (a + b) (mOp addK m1 m2) ρ := by
  obtain ⟨x, e1, o1⟩ := h1
  obtain ⟨y, e2, o2⟩ := h2
  refine ⟨x ++ y, (ev_op e1 e2).trans (if_pos ?_), o1.app o2⟩
  have := o1.l
  have := o2.l
  rw [big_eq]
  omega
theorem sx_cat (h1 : Sx a m1 ρ) (h2 : Sx b m2 ρ) (hb : a + b ≤ 100000) : Sx (a + b) (mOp catSD m1 m2) ρ := by
  obtain ⟨x, e1, o1⟩ := h1
  obtain ⟨y, e2, o2⟩ := h2
  refine ⟨x ++ y, (ev_op e1 e2).trans (if_pos ?_), o1.app o2⟩
  have := o1.l
  have := o2.l
  rw [big_eq]
  omega
theorem ev_sl {f : D → Option Int → Option Int → Option D} {d : D} {l h : Option Int} (h1 : m ρ = some d) (h2 : lo ρ = some l) (h3 : hi ρ = some h) : mSl f m lo hi ρ = f d l h := by
  unfold mSl
  rw [h1, h2, h3]
  rfl
theorem sx_sl {l h : Option Int} (h1 : Sx a m ρ) (h2 : lo ρ = some l) (h3 : hi ρ = some h) (hb : a ≤ 100000) : Sx a (mSl slKD m lo hi) ρ := by
  obtain ⟨x, e1, o1⟩ := h1
  refine ⟨L2.cutS x l h, (ev_sl e1 h2 h3).trans (if_pos ?_), o1.cutS _ _⟩
  have := o1.l
  rw [big_eq]
  omega
theorem cutD_strs (ys : List Str) (l h : Option Int) : ∃ zs : List Str, DD.cutD (ys.map D.str) l h = zs.map D.str ∧ wt zs ≤ wt ys ∧ ∀ z ∈ zs, z ∈ ys := by
  refine ⟨(ys.drop (HT.sIx ys.length 0 l)).take (HT.sIx ys.length ys.length h - HT.sIx ys.length 0 l), ?_, Nat.le_trans (wt_take _ _) (wt_drop _ _), fun z hz => List.mem_of_mem_drop (List.mem_of_mem_take hz)⟩
  unfold DD.cutD
  rw [List.length_map, List.map_take, List.map_drop]
theorem lx_slK {l h : Option Int} (h1 : Lx a m ρ) (h2 : lo ρ = some l) (h3 : hi ρ = some h) : Lx a (mSl slKD m lo hi) ρ := by
  obtain ⟨ys, e1, w, o⟩ := h1
  obtain ⟨zs, e, w2, s⟩ := cutD_strs ys l h
  refine ⟨zs, (ev_sl e1 h2 h3).trans ?_, Nat.le_trans w2 w, fun z hz => o z (s z hz)⟩
  show some (D.lst (DD.cutD (ys.map D.str) l h)) = _
  rw [e]
theorem lx_sl {l h : Option Int} (h1 : Lx a m ρ) (h2 : lo ρ = some l) (h3 : hi ρ = some h) : Lx a (mSl slD m lo hi) ρ := by
  obtain ⟨ys, e1, w, o⟩ := h1
  obtain ⟨zs, e, w2, s⟩ := cutD_strs ys l h
  refine ⟨zs, (ev_sl e1 h2 h3).trans ?_, Nat.le_trans w2 w, fun z hz => o z (s z hz)⟩
  show some (D.lst (DD.cutD (ys.map D.str) l h)) = _
  rw [e]
theorem lx_rev (h1 : Lx a m ρ) : Lx a (mRev m) ρ := by
  obtain ⟨ys, e1, w, o⟩ := h1
  refine ⟨ys.reverse, ?_, by rw [wt_rev]; exact w, fun y hy => o y (List.mem_reverse.mp hy)⟩
  unfold mRev
  rw [e1]
  show some (D.lst (ys.map D.str).reverse) = _
  rw [List.map_reverse]
theorem lx_add (h1 : Lx a m1 ρ) (h2 : Lx b m2 ρ) (hb : a + b ≤ 100000) : Lx (a + b) (mOp addD m1 m2) ρ := by
  obtain ⟨ys, e1, w1, o1⟩ := h1
  obtain ⟨zs, e2, w2, o2⟩ := h2
  have l1 := wt_len ys
  have l2 := wt_len zs
  refine ⟨ys ++ zs, ?_, by rw [wt_append]; omega, fun y hy => ?_⟩
  · rw [ev_op e1 e2, List.map_append]
    refine if_pos ?_
    rw [List.length_map, List.length_map, big_eq]
    omega
  · rcases List.mem_append.mp hy with hy | hy
    · exact o1 y hy
    · exact o2 y hy
theorem lx_one (h : Sx a m ρ) : Lx (a + 1) (mLst (few (mCons m mNil))) ρ := by
  obtain ⟨y, e, o⟩ := h
  refine ⟨[y], ?_, by have := o.l; simp [wt]; omega, fun z hz => by rw [List.mem_singleton] at hz; rw [hz]; exact o.c⟩
  refine ev_lst ?_
  unfold few
  rw [ev_cons e rfl]
  rfl
theorem ev_meth {f : D → List D → Option D} {mo : ME} {ms : MA} {d : D} {ds : List D} (h1 : mo ρ = some d) (h2 : ms ρ = some ds) : mMeth f mo ms ρ = f d ds := by
  unfold mMeth
  rw [h1, h2]
  rfl
theorem sx_join {b : Str} {s : Nat} (hb : tl b = [s]) (hs : s < 256) (h : Lx n m ρ) (hn : n ≤ 100000) : Sx n (mMeth joinD (mC (.str b)) (mCons m mNil)) ρ := by
  obtain ⟨ys, e, w, o⟩ := h
  refine ⟨Txt.join b ys, (ev_meth rfl (ev_cons e rfl)).trans ?_, Ok.join hb hs w o⟩
  show (strsD (ys.map D.str)).bind (fun ys => if (ys.map (·.length)).sum + ys.length * b.length ≤ big then some (D.str (Txt.join b ys)) else none) = _
  rw [strsD_map]
  refine if_pos ?_
  rw [len_tl b, hb]
  show (ys.map (·.length)).sum + ys.length * 1 ≤ big
  rw [wt_sum, big_eq]
  omega
theorem sx_rep (h1 : Sx a m1 ρ) (h2 : Sx b m2 ρ) (h3 : Sx c m3 ρ) (hb : a + c ≤ 100000) : Sx (a + c) (mMeth repD m1 (mCons m2 (mCons m3 (mCons (mC (.int 1)) mNil)))) ρ := by
  obtain ⟨x, e1, o1⟩ := h1
  obtain ⟨y, e2, o2⟩ := h2
  obtain ⟨z, e3, o3⟩ := h3
  have e4 : mCons (mC (.int 1)) mNil ρ = some [D.int 1] := rfl
  refine ⟨Txt.replace1 x y z, (ev_meth e1 (ev_cons e2 (ev_cons e3 e4))).trans (if_pos ?_), o1.rep o3⟩
  have := o1.l
  have := o3.l
  rw [big_eq]
  omega
theorem ax_nil : Ax n 0 mNil ρ := ⟨[], rfl, rfl, fun _ h => by cases h⟩
theorem ax_cons {ms : MA} (h : Sx a m ρ) (h2 : Ax n k ms ρ) (hn : a ≤ n := by decide) : Ax n (k + 1) (mCons m ms) ρ := by
  obtain ⟨y, e, o⟩ := h
  obtain ⟨ys, e2, l, o2⟩ := h2
  refine ⟨y :: ys, ev_cons e e2, by simp [l], fun z hz => ?_⟩
  rcases List.mem_cons.mp hz with rfl | hz
  · exact o.mono hn
  · exact o2 z hz
theorem ax_few {ms : MA} (h : Ax n k ms ρ) (hk : k ≤ 100 := by decide) : Ax n k (few ms) ρ := by
  obtain ⟨ys, e, l, o⟩ := h
  refine ⟨ys, ?_, l, o⟩
  unfold few
  rw [e]
  refine if_pos ?_
  rw [List.length_map]
  omega
end
end K85

set_option Elab.async false
set_option linter.all false
set_option maxRecDepth 100000
set_option maxHeartbeats 4000000
namespace K85
open PySem PySem.Spec PyProof.Rows L2 Evl DD
/-! M11: the texts with one thing changed -/
theorem ev_asg' {i : Nat} {m : ME} {ρ ρ' : DEnv} {d : D} (h : m ρ = some d) (e : ρ.set i (.pu d) = ρ') : mAsg i m ρ = some (.nx ρ') := by
  rw [ev_asg h, e]
theorem modD_ok {a b : Int} (h : 0 < b) : modD (.int a) (.int b) = some (.int (a % b)) := by
  unfold modD DD.intD
  exact if_pos (by unfold modC; exact decide_eq_true h)
theorem at_mem {α : Type} {xs : List α} {i : Int} (h0 : 0 ≤ i) (h1 : i < xs.length) : ∃ x, x ∈ xs ∧ atI xs i = some x := by
  have h : i.toNat < xs.length := by omega
  refine ⟨xs[i.toNat], List.getElem_mem h, ?_⟩
  unfold atI ixN
  rw [if_pos h0, if_pos h1]
  exact List.getElem?_eq_getElem h
theorem ix_mod {ys : List Str} {a : Int} (h : 0 < ys.length) : ∃ y, y ∈ ys ∧ ixLD (.lst (ys.map .str)) (.int (a % (ys.length : Int))) = some (.str y) := by
  have h0 := Int.emod_nonneg a (b := (ys.length : Int)) (by omega)
  have h1 := Int.emod_lt_of_pos a (b := (ys.length : Int)) (by omega)
  obtain ⟨x, hx, e⟩ := at_mem (xs := ys.map D.str) h0 (by rw [List.length_map]; exact h1)
  obtain ⟨y, hy, rfl⟩ := List.mem_map.mp hx
  exact ⟨y, hy, e⟩
abbrev mOther (m : ME) : ME := mMeth joinD (mC (.str "\n")) (mCons (mOp addD (mOp addD (mSl slD (mVar 3) mNoPart (mPart (mVar 4))) (mLst (few (mCons m mNil)))) (mSl slD (mVar 3) (mPart (mOp addD (mVar 4) (mC (.int 1)))) mNoPart)) mNil)
theorem for_bent {x0 x1 x2 x5 x6 x7 x8 x9 x11 : DE} {L : List Str} {i : Int} (hL : wt L ≤ 1001) (hc : ∀ y ∈ L, okC y) : ∀ (bs : List Str) (acc : List Str) (x : DE), acc.length + bs.length ≤ 1000 → (∀ b ∈ bs, Ok 5000 b) → (∀ b ∈ acc, Ok 20000 b) →
    ∃ (out : List Str) (x' : DE), forL (gN 12) (mApp 10 (mOther (mVar 12))) (bs.map D.str) [x0, x1, x2, .pu (.lst (L.map .str)), .pu (.int i), x5, x6, x7, x8, x9, .ow (acc.map .str), x11, x] = some (.nx [x0, x1, x2, .pu (.lst (L.map .str)), .pu (.int i), x5, x6, x7, x8, x9, .ow (out.map .str), x11, x']) ∧ out.length = acc.length + bs.length ∧ ∀ b ∈ out, Ok 20000 b
  | [], acc, x, _, _, ha => ⟨acc, x, rfl, rfl, ha⟩
  | b :: bs, acc, x, hl, hb, ha => by
    have l3 : Lx 1001 (mVar 3) [x0, x1, x2, .pu (.lst (L.map .str)), .pu (.int i), x5, x6, x7, x8, x9, .ow (acc.map .str), x11, .pu (.str b)] := ⟨L, rfl, hL, hc⟩
    have sb : Sx 5000 (mVar 12) [x0, x1, x2, .pu (.lst (L.map .str)), .pu (.int i), x5, x6, x7, x8, x9, .ow (acc.map .str), x11, .pu (.str b)] := ⟨b, rfl, hb b (by simp)⟩
    have so : Sx 20000 (mOther (mVar 12)) [x0, x1, x2, .pu (.lst (L.map .str)), .pu (.int i), x5, x6, x7, x8, x9, .ow (acc.map .str), x11, .pu (.str b)] :=
      (sx_join tl_nl (by decide) (lx_add (lx_add (lx_sl l3 rfl rfl) (lx_one sb) (by decide)) (lx_sl l3 rfl rfl) (by decide)) (by decide)).mono (by decide)
    obtain ⟨y, ey, oy⟩ := so
    obtain ⟨out, x', e, hlen, ho⟩ := for_bent (x0 := x0) (x1 := x1) (x2 := x2) (x5 := x5) (x6 := x6) (x7 := x7) (x8 := x8) (x9 := x9) (x11 := x11) (i := i) hL hc bs (acc ++ [y]) (.pu (.str b)) (by simp at hl ⊢; omega) (fun b h => hb b (by simp [h])) (fun b h => by
      rcases List.mem_append.mp h with h | h
      · exact ha b h
      · rw [List.mem_singleton] at h; rw [h]; exact oy)
    refine ⟨out, x', ?_, by rw [hlen]; simp; omega, ho⟩
    have hap : mApp 10 (mOther (mVar 12)) [x0, x1, x2, .pu (.lst (L.map .str)), .pu (.int i), x5, x6, x7, x8, x9, .ow (acc.map .str), x11, .pu (.str b)] = some (.nx [x0, x1, x2, .pu (.lst (L.map .str)), .pu (.int i), x5, x6, x7, x8, x9, .ow ((acc ++ [y]).map .str), x11, .pu (.str b)]) := by
      show (mOther (mVar 12) _).bind (fun d => if (acc.map D.str).length < big then some (Out.nx [x0, x1, x2, .pu (.lst (L.map .str)), .pu (.int i), x5, x6, x7, x8, x9, .ow (acc.map .str ++ [d]), x11, .pu (.str b)]) else none) = _
      rw [ey]
      rw [List.map_append]
      refine if_pos ?_
      rw [List.length_map, big_eq]
      simp at hl
      omega
    show (mApp 10 (mOther (mVar 12)) [x0, x1, x2, .pu (.lst (L.map .str)), .pu (.int i), x5, x6, x7, x8, x9, .ow (acc.map .str), x11, .pu (.str b)]).bind _ = _
    rw [hap]
    exact e
theorem okS {z : Str} (n : Nat) (l : List Nat) (e : tl z = l) (hn : l.length ≤ n := by decide) (hc : ∀ c ∈ l, c < 1114112 := by decide) : Ok n z := ⟨by rw [len_tl, e]; exact hn, fun c h => hc c (e ▸ h)⟩
theorem sx_c {ρ : DEnv} {z : Str} (n : Nat) (h : Ok n z) : Sx n (mC (.str z)) ρ := ⟨z, rfl, h⟩
theorem ok_e : Ok 0 "" := okS 0 [] (by decide)
theorem ok_sp : Ok 1 " " := okS 1 [32] (by decide)
theorem ok_nl : Ok 1 "\n" := okS 1 [10] (by decide)
theorem ok_0 : Ok 1 "0" := okS 1 [48] (by decide)
theorem ok_1 : Ok 1 "1" := okS 1 [49] (by decide)
theorem ok_sps : Ok 2 "  " := okS 2 [32, 32] (by decide)
theorem F_texts_ok {z : Str} {n0 n1 n2 : Int} {ns : List D} {pcs : List Str} (hz : Ok 1000 z) (hp : 0 < pcs.length) (hpo : ∀ p ∈ pcs, Ok 10 p) :
    ∃ out : List Str, F__law_texts [.str z, .lst (.int n0 :: .int n1 :: .int n2 :: ns), .lst (pcs.map .str)] = some (.lst (out.map .str)) ∧ ∀ y ∈ out, Ok 20000 y := by
  obtain ⟨f1, f2, f3⟩ := cut_facts (z := z) tl_nl (by decide)
  have hsm : small z := Nat.le_trans hz.l (by decide)
  generalize hL : Txt.split z "\n" = L at f1 f2 f3
  have wL : wt L ≤ 1001 := by have := hz.l; omega
  have cL : ∀ y ∈ L, okC y := fun y hy c hc => hz.c c ((f1 y hy).2.2 c hc)
  have oL : ∀ y ∈ L, Ok 1000 y := fun y hy => ⟨Nat.le_trans (f1 y hy).2.1 hz.l, cL y hy⟩
  obtain ⟨line, hline, eline⟩ := ix_mod (a := n0) f3
  have oline := oL line hline
  generalize hi : n0 % (L.length : Int) = i at eline
  obtain ⟨g1, g2, g3⟩ := cut_facts (z := line) tl_sp (by decide)
  generalize hW : Txt.split line " " = W at g1 g2 g3
  have wW : wt W ≤ 1001 := by have := oline.l; omega
  have cW : ∀ y ∈ W, okC y := fun y hy c hc => oline.c c ((g1 y hy).2.2 c hc)
  obtain ⟨word, hword, eword⟩ := ix_mod (a := n1) g3
  have oword : Ok 1000 word := ⟨Nat.le_trans (g1 word hword).2.1 oline.l, cW word hword⟩
  obtain ⟨sign, hsign, esign⟩ := ix_mod (a := n2) hp
  have osign := hpo sign hsign
  generalize hN : D.lst (.int n0 :: .int n1 :: .int n2 :: ns) = Nm
  have i0 : ixLD Nm (.int 0) = some (.int n0) := by rw [← hN]; exact atI_zero _ _
  have i1 : ixLD Nm (.int 1) = some (.int n1) := by
    rw [← hN]
    show atI _ 1 = _
    unfold atI ixN
    rw [if_pos (by decide), if_pos (by simp only [List.length_cons]; omega)]
    rfl
  have i2 : ixLD Nm (.int 2) = some (.int n2) := by
    rw [← hN]
    show atI _ 2 = _
    unfold atI ixN
    rw [if_pos (by decide), if_pos (by simp only [List.length_cons]; omega)]
    rfl
  have s3 : (mMeth splitD (mVar 0) (mCons (mC (.str "\n")) mNil)) [.pu (.str z), .pu Nm, .pu (.lst (pcs.map .str)), .un, .un, .un, .un, .un, .un, .un, .un, .un, .un] = some (.lst (L.map .str)) := by
    refine (ev_meth rfl (ev_cons rfl rfl)).trans ?_
    rw [splitD_ok tl_nl (big_of hsm), hL]
  have s4 : (mOp modD (mOp ixLD (mVar 1) (mC (.int 0))) (mCall lenKD (mCons (mVar 3) mNil))) [.pu (.str z), .pu Nm, .pu (.lst (pcs.map .str)), .pu (.lst (L.map .str)), .un, .un, .un, .un, .un, .un, .un, .un, .un] = some (.int i) := by
    have e : mCall lenKD (mCons (mVar 3) mNil) [.pu (.str z), .pu Nm, .pu (.lst (pcs.map .str)), .pu (.lst (L.map .str)), .un, .un, .un, .un, .un, .un, .un, .un, .un] = some (.int (L.length : Int)) := by
      show some (D.int ((L.map D.str).length : Int)) = _
      rw [List.length_map]
    rw [ev_op ((ev_op rfl rfl).trans i0) e, modD_ok (by omega), hi]
  have s5 : mOp ixLD (mVar 3) (mVar 4) [.pu (.str z), .pu Nm, .pu (.lst (pcs.map .str)), .pu (.lst (L.map .str)), .pu (.int i), .un, .un, .un, .un, .un, .un, .un, .un] = some (.str line) := (ev_op rfl rfl).trans eline
  have s6 : ∃ spot : Int, (mOp modD (mOp ixLD (mVar 1) (mC (.int 1))) (mOp addK (mCall lenKD (mCons (mVar 5) mNil)) (mC (.int 1)))) [.pu (.str z), .pu Nm, .pu (.lst (pcs.map .str)), .pu (.lst (L.map .str)), .pu (.int i), .pu (.str line), .un, .un, .un, .un, .un, .un, .un] = some (.int spot) := by
    have e : mOp addK (mCall lenKD (mCons (mVar 5) mNil)) (mC (.int 1)) [.pu (.str z), .pu Nm, .pu (.lst (pcs.map .str)), .pu (.lst (L.map .str)), .pu (.int i), .pu (.str line), .un, .un, .un, .un, .un, .un, .un] = some (.int ((line.length : Int) + 1)) := by
      have e1 : mCall lenKD (mCons (mVar 5) mNil) [.pu (.str z), .pu Nm, .pu (.lst (pcs.map .str)), .pu (.lst (L.map .str)), .pu (.int i), .pu (.str line), .un, .un, .un, .un, .un, .un, .un] = some (.int (line.length : Int)) := if_pos (by have := oline.l; rw [big_eq]; omega)
      rw [ev_op e1 rfl]
      rfl
    exact ⟨_, (ev_op ((ev_op rfl rfl).trans i1) e).trans (modD_ok (by omega))⟩
  obtain ⟨spot, s6⟩ := s6
  have s7 : mOp ixLD (mVar 2) (mOp modD (mOp ixLD (mVar 1) (mC (.int 2))) (mCall lenKD (mCons (mVar 2) mNil))) [.pu (.str z), .pu Nm, .pu (.lst (pcs.map .str)), .pu (.lst (L.map .str)), .pu (.int i), .pu (.str line), .pu (.int spot), .un, .un, .un, .un, .un, .un] = some (.str sign) := by
    have e : mCall lenKD (mCons (mVar 2) mNil) [.pu (.str z), .pu Nm, .pu (.lst (pcs.map .str)), .pu (.lst (L.map .str)), .pu (.int i), .pu (.str line), .pu (.int spot), .un, .un, .un, .un, .un, .un] = some (.int (pcs.length : Int)) := by
      show some (D.int ((pcs.map D.str).length : Int)) = _
      rw [List.length_map]
    have e2 := (ev_op (f := modD) ((ev_op (f := ixLD) (ρ := [.pu (.str z), .pu Nm, .pu (.lst (pcs.map .str)), .pu (.lst (L.map .str)), .pu (.int i), .pu (.str line), .pu (.int spot), .un, .un, .un, .un, .un, .un]) (ma := mVar 1) (mb := mC (.int 2)) rfl rfl).trans i2) e).trans (modD_ok (by omega))
    exact (ev_op rfl e2).trans esign
  have s8 : (mMeth splitD (mVar 5) (mCons (mC (.str " ")) mNil)) [.pu (.str z), .pu Nm, .pu (.lst (pcs.map .str)), .pu (.lst (L.map .str)), .pu (.int i), .pu (.str line), .pu (.int spot), .pu (.str sign), .un, .un, .un, .un, .un] = some (.lst (W.map .str)) := by
    refine (ev_meth rfl (ev_cons rfl rfl)).trans ?_
    rw [splitD_ok tl_sp (big_of (Nat.le_trans oline.l (by decide))), hW]
  have s9 : mOp ixLD (mVar 8) (mOp modD (mOp ixLD (mVar 1) (mC (.int 1))) (mCall lenKD (mCons (mVar 8) mNil))) [.pu (.str z), .pu Nm, .pu (.lst (pcs.map .str)), .pu (.lst (L.map .str)), .pu (.int i), .pu (.str line), .pu (.int spot), .pu (.str sign), .pu (.lst (W.map .str)), .un, .un, .un, .un] = some (.str word) := by
    have e : mCall lenKD (mCons (mVar 8) mNil) [.pu (.str z), .pu Nm, .pu (.lst (pcs.map .str)), .pu (.lst (L.map .str)), .pu (.int i), .pu (.str line), .pu (.int spot), .pu (.str sign), .pu (.lst (W.map .str)), .un, .un, .un, .un] = some (.int (W.length : Int)) := by
      show some (D.int ((W.map D.str).length : Int)) = _
      rw [List.length_map]
    have e2 := (ev_op (f := modD) ((ev_op (f := ixLD) (ρ := [.pu (.str z), .pu Nm, .pu (.lst (pcs.map .str)), .pu (.lst (L.map .str)), .pu (.int i), .pu (.str line), .pu (.int spot), .pu (.str sign), .pu (.lst (W.map .str)), .un, .un, .un, .un]) (ma := mVar 1) (mb := mC (.int 1)) rfl rfl).trans i1) e).trans (modD_ok (by omega))
    exact (ev_op rfl e2).trans eword
  have s10 : Ax 20000 10 (few (mCons (mVar 0) (mCons (mOp addK (mVar 0) (mC (.str "\n"))) (mCons (mOp addK (mC (.str "\n")) (mVar 0)) (mCons (mOp addK (mVar 0) (mC (.str " "))) (mCons (mOp addK (mC (.str " ")) (mVar 0)) (mCons (mC (.str "")) (mCons (mOp addK (mOp addK (mVar 0) (mC (.str "\n"))) (mVar 5)) (mCons (mVar 5) (mCons (mMeth repD (mVar 0) (mCons (mC (.str " ")) (mCons (mC (.str "  ")) (mCons (mC (.int 1)) mNil)))) (mCons (mMeth joinD (mC (.str "\n")) (mCons (mRev (mVar 3)) mNil)) mNil))))))))))) [.pu (.str z), .pu Nm, .pu (.lst (pcs.map .str)), .pu (.lst (L.map .str)), .pu (.int i), .pu (.str line), .pu (.int spot), .pu (.str sign), .pu (.lst (W.map .str)), .pu (.str word), .un, .un, .un] := by
    have vz : Sx 1000 (mVar 0) [.pu (.str z), .pu Nm, .pu (.lst (pcs.map .str)), .pu (.lst (L.map .str)), .pu (.int i), .pu (.str line), .pu (.int spot), .pu (.str sign), .pu (.lst (W.map .str)), .pu (.str word), .un, .un, .un] := ⟨z, rfl, hz⟩
    have vL : Lx 1001 (mVar 3) [.pu (.str z), .pu Nm, .pu (.lst (pcs.map .str)), .pu (.lst (L.map .str)), .pu (.int i), .pu (.str line), .pu (.int spot), .pu (.str sign), .pu (.lst (W.map .str)), .pu (.str word), .un, .un, .un] := ⟨L, rfl, wL, cL⟩
    have vl : Sx 1000 (mVar 5) [.pu (.str z), .pu Nm, .pu (.lst (pcs.map .str)), .pu (.lst (L.map .str)), .pu (.int i), .pu (.str line), .pu (.int spot), .pu (.str sign), .pu (.lst (W.map .str)), .pu (.str word), .un, .un, .un] := ⟨line, rfl, oline⟩
    have vg : Sx 10 (mVar 7) [.pu (.str z), .pu Nm, .pu (.lst (pcs.map .str)), .pu (.lst (L.map .str)), .pu (.int i), .pu (.str line), .pu (.int spot), .pu (.str sign), .pu (.lst (W.map .str)), .pu (.str word), .un, .un, .un] := ⟨sign, rfl, osign⟩
    have vW : Lx 1001 (mVar 8) [.pu (.str z), .pu Nm, .pu (.lst (pcs.map .str)), .pu (.lst (L.map .str)), .pu (.int i), .pu (.str line), .pu (.int spot), .pu (.str sign), .pu (.lst (W.map .str)), .pu (.str word), .un, .un, .un] := ⟨W, rfl, wW, cW⟩
    have vw : Sx 1000 (mVar 9) [.pu (.str z), .pu Nm, .pu (.lst (pcs.map .str)), .pu (.lst (L.map .str)), .pu (.int i), .pu (.str line), .pu (.int spot), .pu (.str sign), .pu (.lst (W.map .str)), .pu (.str word), .un, .un, .un] := ⟨word, rfl, oword⟩
    exact ax_few (ax_cons vz (ax_cons (sx_add vz (sx_c 1 ok_nl) (by decide)) (ax_cons (sx_add (sx_c 1 ok_nl) vz (by decide)) (ax_cons (sx_add vz (sx_c 1 ok_sp) (by decide)) (ax_cons (sx_add (sx_c 1 ok_sp) vz (by decide)) (ax_cons (sx_c 0 ok_e) (ax_cons (sx_add (sx_add vz (sx_c 1 ok_nl) (by decide)) vl (by decide)) (ax_cons vl (ax_cons (sx_rep vz (sx_c 1 ok_sp) (sx_c 2 ok_sps) (by decide)) (ax_cons (sx_join tl_nl (by decide) (lx_rev vL) (by decide)) ax_nil))))))))))
  obtain ⟨fs, ef, lf, of⟩ := s10
  have s11 : Ax 5000 5 (few (mCons (mOp addK (mOp addK (mSl slKD (mVar 5) mNoPart (mPart (mVar 6))) (mVar 7)) (mSl slKD (mVar 5) (mPart (mVar 6)) mNoPart)) (mCons (mOp addK (mOp addK (mSl slKD (mVar 5) mNoPart (mPart (mVar 6))) (mVar 7)) (mSl slKD (mVar 5) (mPart (mOp addK (mVar 6) (mC (.int 1)))) mNoPart)) (mCons (mOp addK (mSl slKD (mVar 5) mNoPart (mPart (mVar 6))) (mSl slKD (mVar 5) (mPart (mOp addK (mVar 6) (mC (.int 1)))) mNoPart)) (mCons (mMeth joinD (mC (.str " ")) (mCons (mRev (mVar 8)) mNil)) (mCons (mMeth joinD (mC (.str " ")) (mCons (mSl slKD (mVar 8) mNoPart (mPart (mUn negD (mC (.int 1))))) mNil)) mNil)))))) [.pu (.str z), .pu Nm, .pu (.lst (pcs.map .str)), .pu (.lst (L.map .str)), .pu (.int i), .pu (.str line), .pu (.int spot), .pu (.str sign), .pu (.lst (W.map .str)), .pu (.str word), .ow (fs.map .str), .un, .un] := by
    have vz : Sx 1000 (mVar 0) [.pu (.str z), .pu Nm, .pu (.lst (pcs.map .str)), .pu (.lst (L.map .str)), .pu (.int i), .pu (.str line), .pu (.int spot), .pu (.str sign), .pu (.lst (W.map .str)), .pu (.str word), .ow (fs.map .str), .un, .un] := ⟨z, rfl, hz⟩
    have vL : Lx 1001 (mVar 3) [.pu (.str z), .pu Nm, .pu (.lst (pcs.map .str)), .pu (.lst (L.map .str)), .pu (.int i), .pu (.str line), .pu (.int spot), .pu (.str sign), .pu (.lst (W.map .str)), .pu (.str word), .ow (fs.map .str), .un, .un] := ⟨L, rfl, wL, cL⟩
    have vl : Sx 1000 (mVar 5) [.pu (.str z), .pu Nm, .pu (.lst (pcs.map .str)), .pu (.lst (L.map .str)), .pu (.int i), .pu (.str line), .pu (.int spot), .pu (.str sign), .pu (.lst (W.map .str)), .pu (.str word), .ow (fs.map .str), .un, .un] := ⟨line, rfl, oline⟩
    have vg : Sx 10 (mVar 7) [.pu (.str z), .pu Nm, .pu (.lst (pcs.map .str)), .pu (.lst (L.map .str)), .pu (.int i), .pu (.str line), .pu (.int spot), .pu (.str sign), .pu (.lst (W.map .str)), .pu (.str word), .ow (fs.map .str), .un, .un] := ⟨sign, rfl, osign⟩
    have vW : Lx 1001 (mVar 8) [.pu (.str z), .pu Nm, .pu (.lst (pcs.map .str)), .pu (.lst (L.map .str)), .pu (.int i), .pu (.str line), .pu (.int spot), .pu (.str sign), .pu (.lst (W.map .str)), .pu (.str word), .ow (fs.map .str), .un, .un] := ⟨W, rfl, wW, cW⟩
    have vw : Sx 1000 (mVar 9) [.pu (.str z), .pu Nm, .pu (.lst (pcs.map .str)), .pu (.lst (L.map .str)), .pu (.int i), .pu (.str line), .pu (.int spot), .pu (.str sign), .pu (.lst (W.map .str)), .pu (.str word), .ow (fs.map .str), .un, .un] := ⟨word, rfl, oword⟩
    exact ax_few (ax_cons (sx_add (sx_add (sx_sl vl rfl rfl (by decide)) vg (by decide)) (sx_sl vl rfl rfl (by decide)) (by decide)) (ax_cons (sx_add (sx_add (sx_sl vl rfl rfl (by decide)) vg (by decide)) (sx_sl vl rfl rfl (by decide)) (by decide)) (ax_cons (sx_add (sx_sl vl rfl rfl (by decide)) (sx_sl vl rfl rfl (by decide)) (by decide)) (ax_cons (sx_join tl_sp (by decide) (lx_rev vW) (by decide)) (ax_cons (sx_join tl_sp (by decide) (lx_slK vW rfl rfl) (by decide)) ax_nil)))))
  obtain ⟨bs, eb, lb, ob⟩ := s11
  have s12 : Ax 5000 6 (few (mCons (mMeth joinD (mC (.str " ")) (mCons (mSl slKD (mVar 8) (mPart (mC (.int 1))) mNoPart) mNil)) (mCons (mOp addK (mOp addK (mVar 5) (mC (.str " "))) (mVar 9)) (mCons (mOp addK (mOp addK (mVar 9) (mC (.str " "))) (mVar 5)) (mCons (mMeth repD (mVar 5) (mCons (mVar 9) (mCons (mVar 7) (mCons (mC (.int 1)) mNil)))) (mCons (mMeth repD (mVar 5) (mCons (mVar 9) (mCons (mOp catSD (mVar 9) (mC (.str "1"))) (mCons (mC (.int 1)) mNil)))) (mCons (mMeth repD (mVar 5) (mCons (mVar 9) (mCons (mOp catSD (mC (.str "0")) (mVar 9)) (mCons (mC (.int 1)) mNil)))) mNil))))))) [.pu (.str z), .pu Nm, .pu (.lst (pcs.map .str)), .pu (.lst (L.map .str)), .pu (.int i), .pu (.str line), .pu (.int spot), .pu (.str sign), .pu (.lst (W.map .str)), .pu (.str word), .ow (fs.map .str), .pu (.lst (bs.map .str)), .un] := by
    have vz : Sx 1000 (mVar 0) [.pu (.str z), .pu Nm, .pu (.lst (pcs.map .str)), .pu (.lst (L.map .str)), .pu (.int i), .pu (.str line), .pu (.int spot), .pu (.str sign), .pu (.lst (W.map .str)), .pu (.str word), .ow (fs.map .str), .pu (.lst (bs.map .str)), .un] := ⟨z, rfl, hz⟩
    have vL : Lx 1001 (mVar 3) [.pu (.str z), .pu Nm, .pu (.lst (pcs.map .str)), .pu (.lst (L.map .str)), .pu (.int i), .pu (.str line), .pu (.int spot), .pu (.str sign), .pu (.lst (W.map .str)), .pu (.str word), .ow (fs.map .str), .pu (.lst (bs.map .str)), .un] := ⟨L, rfl, wL, cL⟩
    have vl : Sx 1000 (mVar 5) [.pu (.str z), .pu Nm, .pu (.lst (pcs.map .str)), .pu (.lst (L.map .str)), .pu (.int i), .pu (.str line), .pu (.int spot), .pu (.str sign), .pu (.lst (W.map .str)), .pu (.str word), .ow (fs.map .str), .pu (.lst (bs.map .str)), .un] := ⟨line, rfl, oline⟩
    have vg : Sx 10 (mVar 7) [.pu (.str z), .pu Nm, .pu (.lst (pcs.map .str)), .pu (.lst (L.map .str)), .pu (.int i), .pu (.str line), .pu (.int spot), .pu (.str sign), .pu (.lst (W.map .str)), .pu (.str word), .ow (fs.map .str), .pu (.lst (bs.map .str)), .un] := ⟨sign, rfl, osign⟩
    have vW : Lx 1001 (mVar 8) [.pu (.str z), .pu Nm, .pu (.lst (pcs.map .str)), .pu (.lst (L.map .str)), .pu (.int i), .pu (.str line), .pu (.int spot), .pu (.str sign), .pu (.lst (W.map .str)), .pu (.str word), .ow (fs.map .str), .pu (.lst (bs.map .str)), .un] := ⟨W, rfl, wW, cW⟩
    have vw : Sx 1000 (mVar 9) [.pu (.str z), .pu Nm, .pu (.lst (pcs.map .str)), .pu (.lst (L.map .str)), .pu (.int i), .pu (.str line), .pu (.int spot), .pu (.str sign), .pu (.lst (W.map .str)), .pu (.str word), .ow (fs.map .str), .pu (.lst (bs.map .str)), .un] := ⟨word, rfl, oword⟩
    exact ax_few (ax_cons (sx_join tl_sp (by decide) (lx_slK vW rfl rfl) (by decide)) (ax_cons (sx_add (sx_add vl (sx_c 1 ok_sp) (by decide)) vw (by decide)) (ax_cons (sx_add (sx_add vw (sx_c 1 ok_sp) (by decide)) vl (by decide)) (ax_cons (sx_rep vl vw vg (by decide)) (ax_cons (sx_rep vl vw (sx_cat vw (sx_c 1 ok_1) (by decide)) (by decide)) (ax_cons (sx_rep vl vw (sx_cat (sx_c 1 ok_0) vw (by decide)) (by decide)) ax_nil))))))
  obtain ⟨bs2, eb2, lb2, ob2⟩ := s12
  have s13 : (mOp addK (mVar 11) (mLst (few (mCons (mMeth joinD (mC (.str " ")) (mCons (mSl slKD (mVar 8) (mPart (mC (.int 1))) mNoPart) mNil)) (mCons (mOp addK (mOp addK (mVar 5) (mC (.str " "))) (mVar 9)) (mCons (mOp addK (mOp addK (mVar 9) (mC (.str " "))) (mVar 5)) (mCons (mMeth repD (mVar 5) (mCons (mVar 9) (mCons (mVar 7) (mCons (mC (.int 1)) mNil)))) (mCons (mMeth repD (mVar 5) (mCons (mVar 9) (mCons (mOp catSD (mVar 9) (mC (.str "1"))) (mCons (mC (.int 1)) mNil)))) (mCons (mMeth repD (mVar 5) (mCons (mVar 9) (mCons (mOp catSD (mC (.str "0")) (mVar 9)) (mCons (mC (.int 1)) mNil)))) mNil))))))))) [.pu (.str z), .pu Nm, .pu (.lst (pcs.map .str)), .pu (.lst (L.map .str)), .pu (.int i), .pu (.str line), .pu (.int spot), .pu (.str sign), .pu (.lst (W.map .str)), .pu (.str word), .ow (fs.map .str), .pu (.lst (bs.map .str)), .un] = some (.lst ((bs ++ bs2).map .str)) := by
    rw [ev_op rfl (ev_lst eb2), List.map_append]
    refine if_pos ?_
    rw [List.length_map, List.length_map, lb, lb2]
    decide
  obtain ⟨out, x', e14, l14, o14⟩ := for_bent (x0 := .pu (.str z)) (x1 := .pu Nm) (x2 := .pu (.lst (pcs.map .str))) (x5 := .pu (.str line)) (x6 := .pu (.int spot)) (x7 := .pu (.str sign)) (x8 := .pu (.lst (W.map .str))) (x9 := .pu (.str word)) (x11 := .pu (.lst ((bs ++ bs2).map .str))) (i := i) wL cL (bs ++ bs2) fs .un (by rw [List.length_append, lf, lb, lb2]; decide) (fun b h => by
    rcases List.mem_append.mp h with h | h
    · exact ob b h
    · exact ob2 b h) of
  have s15 : Ax 20000 2 (few (mCons (mMeth joinD (mC (.str "\n")) (mCons (mOp addD (mSl slD (mVar 3) mNoPart (mPart (mVar 4))) (mSl slD (mVar 3) (mPart (mOp addD (mVar 4) (mC (.int 1)))) mNoPart)) mNil)) (mCons (mMeth joinD (mC (.str "\n")) (mCons (mOp addD (mOp addD (mSl slD (mVar 3) mNoPart (mPart (mVar 4))) (mLst (few (mCons (mVar 5) mNil)))) (mSl slD (mVar 3) (mPart (mVar 4)) mNoPart)) mNil)) mNil))) [.pu (.str z), .pu Nm, .pu (.lst (pcs.map .str)), .pu (.lst (L.map .str)), .pu (.int i), .pu (.str line), .pu (.int spot), .pu (.str sign), .pu (.lst (W.map .str)), .pu (.str word), .pu (.lst (out.map .str)), .pu (.lst ((bs ++ bs2).map .str)), x'] := by
    have vL : Lx 1001 (mVar 3) [.pu (.str z), .pu Nm, .pu (.lst (pcs.map .str)), .pu (.lst (L.map .str)), .pu (.int i), .pu (.str line), .pu (.int spot), .pu (.str sign), .pu (.lst (W.map .str)), .pu (.str word), .pu (.lst (out.map .str)), .pu (.lst ((bs ++ bs2).map .str)), x'] := ⟨L, rfl, wL, cL⟩
    have vl : Sx 1000 (mVar 5) [.pu (.str z), .pu Nm, .pu (.lst (pcs.map .str)), .pu (.lst (L.map .str)), .pu (.int i), .pu (.str line), .pu (.int spot), .pu (.str sign), .pu (.lst (W.map .str)), .pu (.str word), .pu (.lst (out.map .str)), .pu (.lst ((bs ++ bs2).map .str)), x'] := ⟨line, rfl, oline⟩
    exact ax_few (ax_cons (sx_join tl_nl (by decide) (lx_add (lx_sl vL rfl rfl) (lx_sl vL rfl rfl) (by decide)) (by decide)) (ax_cons (sx_join tl_nl (by decide) (lx_add (lx_add (lx_sl vL rfl rfl) (lx_one vl) (by decide)) (lx_sl vL rfl rfl) (by decide)) (by decide)) ax_nil))
  obtain ⟨es, ee, le, oe⟩ := s15
  refine ⟨out ++ es, ev_runF rfl ?_, fun y hy => ?_⟩
  · show m__law_texts [.pu (.str z), .pu Nm, .pu (.lst (pcs.map .str)), .un, .un, .un, .un, .un, .un, .un, .un, .un, .un] = _
    unfold m__law_texts
    rw [ev_seq (ev_asg' (ρ' := [.pu (.str z), .pu Nm, .pu (.lst (pcs.map .str)), .pu (.lst (L.map .str)), .un, .un, .un, .un, .un, .un, .un, .un, .un]) s3 rfl)]
    rw [ev_seq (ev_asg' (ρ' := [.pu (.str z), .pu Nm, .pu (.lst (pcs.map .str)), .pu (.lst (L.map .str)), .pu (.int i), .un, .un, .un, .un, .un, .un, .un, .un]) s4 rfl)]
    rw [ev_seq (ev_asg' (ρ' := [.pu (.str z), .pu Nm, .pu (.lst (pcs.map .str)), .pu (.lst (L.map .str)), .pu (.int i), .pu (.str line), .un, .un, .un, .un, .un, .un, .un]) s5 rfl)]
    rw [ev_seq (ev_asg' (ρ' := [.pu (.str z), .pu Nm, .pu (.lst (pcs.map .str)), .pu (.lst (L.map .str)), .pu (.int i), .pu (.str line), .pu (.int spot), .un, .un, .un, .un, .un, .un]) s6 rfl)]
    rw [ev_seq (ev_asg' (ρ' := [.pu (.str z), .pu Nm, .pu (.lst (pcs.map .str)), .pu (.lst (L.map .str)), .pu (.int i), .pu (.str line), .pu (.int spot), .pu (.str sign), .un, .un, .un, .un, .un]) s7 rfl)]
    rw [ev_seq (ev_asg' (ρ' := [.pu (.str z), .pu Nm, .pu (.lst (pcs.map .str)), .pu (.lst (L.map .str)), .pu (.int i), .pu (.str line), .pu (.int spot), .pu (.str sign), .pu (.lst (W.map .str)), .un, .un, .un, .un]) s8 rfl)]
    rw [ev_seq (ev_asg' (ρ' := [.pu (.str z), .pu Nm, .pu (.lst (pcs.map .str)), .pu (.lst (L.map .str)), .pu (.int i), .pu (.str line), .pu (.int spot), .pu (.str sign), .pu (.lst (W.map .str)), .pu (.str word), .un, .un, .un]) s9 rfl)]
    rw [ev_seq (ρ' := [.pu (.str z), .pu Nm, .pu (.lst (pcs.map .str)), .pu (.lst (L.map .str)), .pu (.int i), .pu (.str line), .pu (.int spot), .pu (.str sign), .pu (.lst (W.map .str)), .pu (.str word), .ow (fs.map .str), .un, .un]) (by unfold mAsgO; rw [ef]; rfl)]
    rw [ev_seq (ev_asg' (ρ' := [.pu (.str z), .pu Nm, .pu (.lst (pcs.map .str)), .pu (.lst (L.map .str)), .pu (.int i), .pu (.str line), .pu (.int spot), .pu (.str sign), .pu (.lst (W.map .str)), .pu (.str word), .ow (fs.map .str), .pu (.lst (bs.map .str)), .un]) (ev_lst eb) rfl)]
    rw [ev_seq (ev_asg' (ρ' := [.pu (.str z), .pu Nm, .pu (.lst (pcs.map .str)), .pu (.lst (L.map .str)), .pu (.int i), .pu (.str line), .pu (.int spot), .pu (.str sign), .pu (.lst (W.map .str)), .pu (.str word), .ow (fs.map .str), .pu (.lst ((bs ++ bs2).map .str)), .un]) s13 rfl)]
    have e15 : mFor (mItems (mVar 11)) (gN 12) (mApp 10 (mOther (mVar 12))) [.pu (.str z), .pu Nm, .pu (.lst (pcs.map .str)), .pu (.lst (L.map .str)), .pu (.int i), .pu (.str line), .pu (.int spot), .pu (.str sign), .pu (.lst (W.map .str)), .pu (.str word), .ow (fs.map .str), .pu (.lst ((bs ++ bs2).map .str)), .un] = some (.nx [.pu (.str z), .pu Nm, .pu (.lst (pcs.map .str)), .pu (.lst (L.map .str)), .pu (.int i), .pu (.str line), .pu (.int spot), .pu (.str sign), .pu (.lst (W.map .str)), .pu (.str word), .ow (out.map .str), .pu (.lst ((bs ++ bs2).map .str)), x']) := e14
    rw [ev_seq e15]
    show mRet (mOp addD (mVar 10) (mLst (few (mCons (mMeth joinD (mC (.str "\n")) (mCons (mOp addD (mSl slD (mVar 3) mNoPart (mPart (mVar 4))) (mSl slD (mVar 3) (mPart (mOp addD (mVar 4) (mC (.int 1)))) mNoPart)) mNil)) (mCons (mMeth joinD (mC (.str "\n")) (mCons (mOp addD (mOp addD (mSl slD (mVar 3) mNoPart (mPart (mVar 4))) (mLst (few (mCons (mVar 5) mNil)))) (mSl slD (mVar 3) (mPart (mVar 4)) mNoPart)) mNil)) mNil))))) [.pu (.str z), .pu Nm, .pu (.lst (pcs.map .str)), .pu (.lst (L.map .str)), .pu (.int i), .pu (.str line), .pu (.int spot), .pu (.str sign), .pu (.lst (W.map .str)), .pu (.str word), .pu (.lst (out.map .str)), .pu (.lst ((bs ++ bs2).map .str)), x'] = _
    refine ev_ret ?_
    rw [ev_op rfl (ev_lst ee), List.map_append]
    refine if_pos ?_
    rw [List.length_map, List.length_map, l14, List.length_append, lf, lb, lb2, le]
    decide
  · rcases List.mem_append.mp hy with h | h
    · exact o14 y h
    · exact oe y h
end K85

set_option Elab.async false
set_option linter.all false
set_option maxRecDepth 100000
set_option maxHeartbeats 4000000
namespace K85
open PySem PySem.Spec PyProof.Rows L2 Evl DD
/-! M12: _law_numbers -/
theorem mulD_ok {a b : Int} (h : (-(2 ^ 64) < a ∧ a < 2 ^ 64) ∨ (-(2 ^ 64) < b ∧ b < 2 ^ 64)) : mulD (.int a) (.int b) = some (.int (a * b)) := by
  unfold mulD DD.intD
  exact if_pos (by unfold mulC; exact decide_eq_true h)
theorem fdivD_ok {a b : Int} (h : 0 < b ∧ b < 1073741824) : fdivD (.int a) (.int b) = some (.int (a / b)) := by
  unfold fdivD DD.intD
  exact if_pos (by unfold fdivC; exact decide_eq_true h)
theorem addD_int (a b : Int) : addD (.int a) (.int b) = some (.int (a + b)) := rfl
theorem subD_int (a b : Int) : subD (.int a) (.int b) = some (.int (a - b)) := rfl
def In (m : ME) (ρ : DEnv) (i : Int) : Prop := m ρ = some (.int i)
section
variable {ρ : DEnv} {m1 m2 : ME} {a b : Int}
theorem in_add (h1 : In m1 ρ a) (h2 : In m2 ρ b) : In (mOp addD m1 m2) ρ (a + b) := (ev_op h1 h2).trans rfl
theorem in_sub (h1 : In m1 ρ a) (h2 : In m2 ρ b) : In (mOp subD m1 m2) ρ (a - b) := (ev_op h1 h2).trans rfl
theorem in_mul (h1 : In m1 ρ a) (h2 : In m2 ρ b) (h : (-(2 ^ 64) < a ∧ a < 2 ^ 64) ∨ (-(2 ^ 64) < b ∧ b < 2 ^ 64)) : In (mOp mulD m1 m2) ρ (a * b) := (ev_op h1 h2).trans (mulD_ok h)
theorem in_mod (h1 : In m1 ρ a) (h2 : In m2 ρ b) (h : 0 < b) : In (mOp modD m1 m2) ρ (a % b) := (ev_op h1 h2).trans (modD_ok h)
theorem in_div (h1 : In m1 ρ a) (h2 : In m2 ρ b) (h : 0 < b ∧ b < 1073741824) : In (mOp fdivD m1 m2) ρ (a / b) := (ev_op h1 h2).trans (fdivD_ok h)
end
abbrev mCellB : MS := mIfS (mTest (mOp geD (mVar 3) (mOp powD (mC (.int 10)) (mC (.int 18))))) (mSeq (mApp 4 (mOp modD (mVar 3) (mC (.int 1009)))) (mAsg 3 (mOp fdivD (mVar 3) (mC (.int 1009))))) (mSeq (mAsg 6 (mOp modD (mOp addD (mOp addD (mOp mulD (mVar 3) (mC (.int 48271))) (mOp mulD (mOp addD (mVar 5) (mC (.int 1))) (mC (.int 69621)))) (mOp mulD (mVar 1) (mC (.int 4001)))) (mC (.int 2147483647)))) (mSeq (mAsg 6 (mOp modD (mOp addD (mOp mulD (mVar 6) (mVar 6)) (mOp mulD (mC (.int 16807)) (mOp addD (mVar 5) (mC (.int 3))))) (mC (.int 2147483629)))) (mApp 4 (mOp modD (mOp fdivD (mVar 6) (mC (.int 7))) (mC (.int 1009))))))
def Low (n : Int) : Prop := 0 ≤ n ∧ n < 1009
theorem low_mod (a : Int) : Low (a % 1009) := ⟨Int.emod_nonneg _ (by decide), Int.emod_lt_of_pos _ (by decide)⟩
theorem cell_step {x0 x2 x6 : DE} {t c k : Int} {acc : List Int} (hl : acc.length < 1000) : ∃ (n c' : Int) (y : DE), Low n ∧ mCellB [x0, .pu (.int t), x2, .pu (.int c), .ow (acc.map D.int), .pu (.int k), x6] = some (.nx [x0, .pu (.int t), x2, .pu (.int c'), .ow ((acc ++ [n]).map D.int), .pu (.int k), y]) := by
  have hb : (acc.map D.int).length < big := by
    rw [List.length_map, big_eq]
    omega
  have ap : ∀ (n c' : Int) (y : DE) (m : ME), In m [x0, .pu (.int t), x2, .pu (.int c'), .ow (acc.map D.int), .pu (.int k), y] n → mApp 4 m [x0, .pu (.int t), x2, .pu (.int c'), .ow (acc.map D.int), .pu (.int k), y] = some (.nx [x0, .pu (.int t), x2, .pu (.int c'), .ow ((acc ++ [n]).map D.int), .pu (.int k), y]) := fun n c' y m h => by
    show (m _).bind (fun d => if (acc.map D.int).length < big then some (Out.nx [x0, .pu (.int t), x2, .pu (.int c'), .ow (acc.map D.int ++ [d]), .pu (.int k), y]) else none) = _
    rw [h, List.map_append]
    exact if_pos hb
  have hp : mOp powD (mC (.int 10)) (mC (.int 18)) [x0, .pu (.int t), x2, .pu (.int c), .ow (acc.map D.int), .pu (.int k), x6] = some (.int 1000000000000000000) := by
    rw [ev_op rfl rfl]
    have e : (10 : Int) ^ (18 : Int).toNat = 1000000000000000000 := by decide +kernel
    unfold powD DD.intD
    rw [← e]
    exact if_pos (by decide +kernel)
  have ht : mTest (mOp geD (mVar 3) (mOp powD (mC (.int 10)) (mC (.int 18)))) [x0, .pu (.int t), x2, .pu (.int c), .ow (acc.map D.int), .pu (.int k), x6] = some (decide (1000000000000000000 ≤ c)) := by
    rw [ev_test ((ev_op rfl hp).trans (rfl : geD (.int c) (.int 1000000000000000000) = some (.bl (decide ((1000000000000000000 : Int) ≤ c)))))]
    rfl
  by_cases hc : (1000000000000000000 : Int) ≤ c
  · rw [decide_eq_true hc] at ht
    refine ⟨c % 1009, c / 1009, x6, low_mod c, ?_⟩
    have h1 : In (mOp modD (mVar 3) (mC (.int 1009))) [x0, .pu (.int t), x2, .pu (.int c), .ow (acc.map D.int), .pu (.int k), x6] (c % 1009) := in_mod rfl rfl (by decide)
    have h2 : In (mOp fdivD (mVar 3) (mC (.int 1009))) [x0, .pu (.int t), x2, .pu (.int c), .ow ((acc ++ [c % 1009]).map D.int), .pu (.int k), x6] (c / 1009) := in_div rfl rfl (by decide)
    exact (ev_ifS_t ht).trans ((ev_seq (ap _ _ _ _ h1)).trans (ev_asg' h2 rfl))
  · rw [decide_eq_false hc] at ht
    have h6 : In (mOp modD (mOp addD (mOp addD (mOp mulD (mVar 3) (mC (.int 48271))) (mOp mulD (mOp addD (mVar 5) (mC (.int 1))) (mC (.int 69621)))) (mOp mulD (mVar 1) (mC (.int 4001)))) (mC (.int 2147483647))) [x0, .pu (.int t), x2, .pu (.int c), .ow (acc.map D.int), .pu (.int k), x6] ((c * 48271 + (k + 1) * 69621 + t * 4001) % 2147483647) :=
      in_mod (in_add (in_add (in_mul rfl rfl (.inr (by decide))) (in_mul (in_add rfl rfl) rfl (.inr (by decide)))) (in_mul rfl rfl (.inr (by decide)))) rfl (by decide)
    have b0 := Int.emod_nonneg (c * 48271 + (k + 1) * 69621 + t * 4001) (b := 2147483647) (by decide)
    have b1 := Int.emod_lt_of_pos (c * 48271 + (k + 1) * 69621 + t * 4001) (b := 2147483647) (by decide)
    generalize (c * 48271 + (k + 1) * 69621 + t * 4001) % 2147483647 = mx at h6 b0 b1
    have h7 : In (mOp modD (mOp addD (mOp mulD (mVar 6) (mVar 6)) (mOp mulD (mC (.int 16807)) (mOp addD (mVar 5) (mC (.int 3))))) (mC (.int 2147483629))) [x0, .pu (.int t), x2, .pu (.int c), .ow (acc.map D.int), .pu (.int k), .pu (.int mx)] ((mx * mx + 16807 * (k + 3)) % 2147483629) :=
      in_mod (in_add (in_mul rfl rfl (.inl (by omega))) (in_mul rfl (in_add rfl rfl) (.inl (by decide)))) rfl (by decide)
    generalize (mx * mx + 16807 * (k + 3)) % 2147483629 = my at h7
    refine ⟨my / 7 % 1009, c, .pu (.int my), low_mod _, ?_⟩
    refine (ev_ifS_f ht).trans ?_
    have h8 : In (mOp modD (mOp fdivD (mVar 6) (mC (.int 7))) (mC (.int 1009))) [x0, .pu (.int t), x2, .pu (.int c), .ow (acc.map D.int), .pu (.int k), .pu (.int my)] (my / 7 % 1009) := in_mod (in_div rfl rfl (by decide)) rfl (by decide)
    rw [ev_seq (ev_asg' (ρ' := [x0, .pu (.int t), x2, .pu (.int c), .ow (acc.map D.int), .pu (.int k), .pu (.int mx)]) h6 rfl), ev_seq (ev_asg' (ρ' := [x0, .pu (.int t), x2, .pu (.int c), .ow (acc.map D.int), .pu (.int k), .pu (.int my)]) h7 rfl)]
    exact ap _ _ _ _ h8
theorem for_cells {x0 x2 : DE} {t : Int} : ∀ (ks : List Int) (c : Int) (acc : List Int) (x5 x6 : DE), acc.length + ks.length ≤ 1000 → (∀ n ∈ acc, Low n) →
    ∃ (out : List Int) (c' : Int) (x5' x6' : DE), forL (gN 5) mCellB (ks.map D.int) [x0, .pu (.int t), x2, .pu (.int c), .ow (acc.map D.int), x5, x6] = some (.nx [x0, .pu (.int t), x2, .pu (.int c'), .ow (out.map D.int), x5', x6']) ∧ out.length = acc.length + ks.length ∧ ∀ n ∈ out, Low n
  | [], c, acc, x5, x6, hl, ha => ⟨acc, c, x5, x6, rfl, rfl, ha⟩
  | k :: ks, c, acc, x5, x6, hl, ha => by
    obtain ⟨n, c1, y, hn, e⟩ := cell_step (x0 := x0) (x2 := x2) (x6 := x6) (t := t) (c := c) (k := k) (acc := acc) (by simp at hl; omega)
    obtain ⟨out, c', x5', x6', e2, l2, o2⟩ := for_cells (x0 := x0) (x2 := x2) (t := t) ks c1 (acc ++ [n]) (.pu (.int k)) y (by simp at hl ⊢; omega) (fun m hm => by
      rcases List.mem_append.mp hm with h | h
      · exact ha m h
      · rw [List.mem_singleton] at h; rw [h]; exact hn)
    refine ⟨out, c', x5', x6', ?_, by rw [l2]; simp; omega, o2⟩
    show (mCellB [x0, .pu (.int t), x2, .pu (.int c), .ow (acc.map D.int), .pu (.int k), x6]).bind _ = _
    rw [e]
    exact e2
theorem range_ints (n : Nat) : rangeD 0 n = ((List.range n).map fun (i : Nat) => (i : Int)).map D.int := by
  unfold rangeD
  rw [List.map_map]
  apply List.map_congr_left
  intro i _
  show D.int (0 + (i : Int)) = D.int (i : Int)
  rw [Int.zero_add]
theorem F_numbers_law (s : List Int) : ∃ ns : List Int, F__law_numbers [.lst (s.map D.int), .int 0, .int 60] = some (.lst (ns.map D.int)) ∧ ns.length = 60 ∧ ∀ n ∈ ns, Low n := by
  have fin : ∀ c : Int, ∃ ns : List Int, (mSeq (mIfS (mTest (mOp ltD (mVar 3) (mC (.int 0)))) (mAsg 3 (mOp subD (mC (.int 1)) (mOp mulD (mC (.int 2)) (mVar 3)))) mNext) (mSeq (mAsgO 4 (few mNil)) (mSeq (mFor (mRange1 (mCons (mVar 2) mNil)) (gN 5) mCellB) (fun ρ => (mRet (mVar 4)) (frz 4 ρ))))) [.pu (.lst (s.map D.int)), .pu (.int 0), .pu (.int 60), .pu (.int c), .un, .un, .un] = some (.rt (.lst (ns.map D.int))) ∧ ns.length = 60 ∧ ∀ n ∈ ns, Low n := fun c => by
    have e0 : ∃ c', mIfS (mTest (mOp ltD (mVar 3) (mC (.int 0)))) (mAsg 3 (mOp subD (mC (.int 1)) (mOp mulD (mC (.int 2)) (mVar 3)))) mNext [.pu (.lst (s.map D.int)), .pu (.int 0), .pu (.int 60), .pu (.int c), .un, .un, .un] = some (.nx [.pu (.lst (s.map D.int)), .pu (.int 0), .pu (.int 60), .pu (.int c'), .un, .un, .un]) := by
      have ht : mTest (mOp ltD (mVar 3) (mC (.int 0))) [.pu (.lst (s.map D.int)), .pu (.int 0), .pu (.int 60), .pu (.int c), .un, .un, .un] = some (decide (c < 0)) := rfl
      by_cases hc : c < 0
      · rw [decide_eq_true hc] at ht
        have h1 : In (mOp subD (mC (.int 1)) (mOp mulD (mC (.int 2)) (mVar 3))) [.pu (.lst (s.map D.int)), .pu (.int 0), .pu (.int 60), .pu (.int c), .un, .un, .un] (1 - 2 * c) := in_sub rfl (in_mul rfl rfl (.inl (by decide)))
        exact ⟨_, (ev_ifS_t ht).trans (ev_asg' h1 rfl)⟩
      · rw [decide_eq_false hc] at ht
        exact ⟨c, (ev_ifS_f ht).trans rfl⟩
    obtain ⟨c', e0⟩ := e0
    obtain ⟨out, c2, x5, x6, e, l, o⟩ := for_cells (x0 := .pu (.lst (s.map D.int))) (x2 := .pu (.int 60)) (t := 0) ((List.range 60).map fun (i : Nat) => (i : Int)) c' [] .un .un (by simp) (by simp)
    refine ⟨out, ?_, by simpa using l, o⟩
    rw [ev_seq e0, ev_seq (rfl : mAsgO 4 (few mNil) _ = some (.nx [.pu (.lst (s.map D.int)), .pu (.int 0), .pu (.int 60), .pu (.int c'), .ow [], .un, .un]))]
    have e1 : mFor (mRange1 (mCons (mVar 2) mNil)) (gN 5) mCellB [.pu (.lst (s.map D.int)), .pu (.int 0), .pu (.int 60), .pu (.int c'), .ow [], .un, .un] = some (.nx [.pu (.lst (s.map D.int)), .pu (.int 0), .pu (.int 60), .pu (.int c2), .ow (out.map D.int), x5, x6]) := by
      unfold mFor
      rw [ev_range1 (ev_cons rfl rfl) (by decide)]
      show forL (gN 5) mCellB (rangeD 0 60) _ = _
      rw [range_ints]
      exact e
    rw [ev_seq e1]
    rfl
  have e3' : In (mOp mulD (mC (.int 1000003)) (mOp addD (mVar 1) (mC (.int 1)))) [.pu (.lst (s.map D.int)), .pu (.int 0), .pu (.int 60), .un, .un, .un, .un] (1000003 * (0 + 1)) := in_mul rfl (in_add rfl rfl) (.inl (by decide))
  have e3 : In (mOp mulD (mC (.int 1000003)) (mOp addD (mVar 1) (mC (.int 1)))) [.pu (.lst (s.map D.int)), .pu (.int 0), .pu (.int 60), .un, .un, .un, .un] 1000003 := e3'
  have e4 : ∃ c, mIfS (mTest (mOp ltD (mVar 1) (mCall lenD (mCons (mVar 0) mNil)))) (mAsg 3 (mCall intF (mCons (mOp ixD (mVar 0) (mVar 1)) mNil))) mNext [.pu (.lst (s.map D.int)), .pu (.int 0), .pu (.int 60), .pu (.int 1000003), .un, .un, .un] = some (.nx [.pu (.lst (s.map D.int)), .pu (.int 0), .pu (.int 60), .pu (.int c), .un, .un, .un]) := by
    cases s with
    | nil => exact ⟨1000003, rfl⟩
    | cons a s =>
      have ht : mTest (mOp ltD (mVar 1) (mCall lenD (mCons (mVar 0) mNil))) [.pu (.lst ((a :: s).map D.int)), .pu (.int 0), .pu (.int 60), .pu (.int 1000003), .un, .un, .un] = some (decide ((0 : Int) < (((a :: s).map D.int).length : Int))) := rfl
      rw [decide_eq_true (by rw [List.length_map, List.length_cons]; omega)] at ht
      have ei : mOp ixD (mVar 0) (mVar 1) [.pu (.lst ((a :: s).map D.int)), .pu (.int 0), .pu (.int 60), .pu (.int 1000003), .un, .un, .un] = some (.int a) := by
        rw [ev_op rfl rfl]
        exact atI_zero (D.int a) (s.map D.int)
      exact ⟨a, (ev_ifS_t ht).trans (ev_asg' ((ev_call (ev_cons ei rfl)).trans rfl) rfl)⟩
  obtain ⟨c, e4⟩ := e4
  obtain ⟨ns, e5, l, o⟩ := fin c
  refine ⟨ns, ev_runF rfl ?_, l, o⟩
  show m__law_numbers [.pu (.lst (s.map D.int)), .pu (.int 0), .pu (.int 60), .un, .un, .un, .un] = _
  unfold m__law_numbers
  rw [ev_seq (ev_asg' e3 rfl)]
  refine (ev_seq e4).trans ?_
  exact e5
end K85

set_option Elab.async false
set_option linter.all false
set_option maxRecDepth 100000
set_option maxHeartbeats 4000000
namespace K85
open PySem PySem.Spec PyProof.Rows L2 Evl DD
/-! M13: the rows of the law -/
theorem eqv_ints : ∀ a b : List Int, PyData.eqvAll (a.map PyData.int) (b.map PyData.int) = decide (a = b)
  | [], [] => rfl
  | [], _ :: _ => rfl
  | _ :: _, [] => rfl
  | x :: a, y :: b => by
    have ih := eqv_ints a b
    show (PyData.eqv (.int x) (.int y) && PyData.eqvAll (a.map PyData.int) (b.map PyData.int)) = _
    rw [ih]
    show ((x == y) && decide (a = b)) = _
    rw [Bool.eq_iff_iff]
    simp
theorem any_rows (p : List Int) : ∀ rows : List (List Int), ((rows.map fun ns => PyData.tuple (ns.map .int)).any fun z => PyData.eqv z (.tuple (p.map .int))) = decide (p ∈ rows)
  | [] => rfl
  | r :: rows => by
    have ih := any_rows p rows
    rw [List.map_cons, List.any_cons, ih]
    show (PyData.eqvAll (r.map .int) (p.map .int) || decide (p ∈ rows)) = _
    rw [eqv_ints, Bool.eq_iff_iff]
    simp only [Bool.or_eq_true, decide_eq_true_eq, List.mem_cons]
    constructor
    · rintro (rfl | h)
      · exact .inl rfl
      · exact .inr h
    · rintro (rfl | h)
      · exact .inl rfl
      · exact .inr h
theorem mem_rows (p : List Int) (rows : List (List Int)) : memD (tupI p) (.lst (rows.map tupI)) = some (decide (p ∈ rows)) := by
  show ((pd (tupI p)).bind fun q => (pds (rows.map tupI)).bind fun ps => if SeqAt.shaped q && SeqAt.shaped (.list ps) then some (ps.any fun z => PyData.eqv z q) else none) = _
  rw [pd_tupI, pds_tups]
  have s1 : SeqAt.shaped (.tuple (p.map .int)) = true := by
    unfold SeqAt.shaped
    rw [PyData.canLay0, canLay_ints, PyData.depth, depth_ints]
    rfl
  have s2 : SeqAt.shaped (.list (rows.map fun ns => PyData.tuple (ns.map .int))) = true := by
    have := depth_tups rows
    unfold SeqAt.shaped
    rw [PyData.canLay0, canLay_tups, PyData.depth, decide_eq_true (by omega)]
    rfl
  simp only [Option.bind_some, s1, s2, Bool.and_self, if_true, any_rows]
theorem nin_rows (p : List Int) (rows : List (List Int)) : ninD (tupI p) (.lst (rows.map tupI)) = some (.bl (!decide (p ∈ rows))) := by
  unfold ninD
  rw [mem_rows]
  rfl
def Six (n : Int) : Prop := 0 ≤ n ∧ n < 1000000
def RowOk (r : List Int) : Prop := r.length ≤ 4 ∧ ∀ n ∈ r, Six n
theorem lc_ints {k : Nat} {e : ME} {P : Int → Prop} {ρ : DEnv} : ∀ {ds : List D}, (∀ d ∈ ds, ∃ n, e (ρ.set k (.pu d)) = some (.int n) ∧ P n) → ∃ out : List Int, lcL (gN k) mYes e ρ ds = some (out.map D.int) ∧ out.length = ds.length ∧ ∀ n ∈ out, P n
  | [], _ => ⟨[], rfl, rfl, fun _ h => by cases h⟩
  | d :: ds, h => by
    obtain ⟨n, e1, pn⟩ := h d (by simp)
    obtain ⟨out, e2, l, o⟩ := lc_ints (ds := ds) fun d hd => h d (by simp [hd])
    refine ⟨n :: out, ?_, by simp [l], fun m hm => ?_⟩
    · show (e (ρ.set k (.pu d))).bind (fun y => (lcL (gN k) mYes e ρ ds).map (y :: ·)) = _
      rw [e1, e2]
      rfl
    · rcases List.mem_cons.mp hm with rfl | hm
      · exact pn
      · exact o m hm
theorem num_ix {ns : List Int} (hl : ns.length = 60) (ho : ∀ n ∈ ns, Low n) {i : Int} (h0 : 0 ≤ i) (h1 : i < 60) : ∃ n, ixD (.lst (ns.map D.int)) (.int i) = some (.int n) ∧ Low n := by
  obtain ⟨x, hx, e⟩ := at_mem (xs := ns.map D.int) h0 (by rw [List.length_map, hl]; exact h1)
  obtain ⟨n, hn, rfl⟩ := List.mem_map.mp hx
  exact ⟨n, e, ho n hn⟩
abbrev mElt : ME := mOp modD (mOp mulD (mOp ixD (mVar 1) (mOp addD (mOp addD (mC (.int 1)) (mOp mulD (mC (.int 6)) (mVar 3))) (mVar 12))) (mOp ixD (mLst (few (mCons (mC (.int 1)) (mCons (mC (.int 0)) (mCons (mC (.int 991)) mNil))))) (mOp modD (mOp ixD (mVar 1) (mOp addD (mC (.int 43)) (mVar 12))) (mC (.int 3))))) (mC (.int 1000000))
abbrev mPlace : ME := mCall tupleD (mCons (mLst (mLc (mRange1 (mCons (mOp modD (mOp ixD (mVar 1) (mOp addD (mC (.int 6)) (mOp mulD (mC (.int 6)) (mVar 3)))) (mC (.int 5))) mNil)) (gN 12) mYes mElt [12])) mNil)
abbrev mRowB : MS := mSeq (mAsg 4 mPlace) (mIfS (fun ρ => (mTest (mOp ninD (mVar 4) (mVar 2))) (frz 2 ρ)) (mApp 2 (mVar 4)) mNext)
section
variable {x0 x4 x5 x6 x7 x8 x9 x10 x11 : DE} {ns : List Int} {rows : List (List Int)} {k : Int}
theorem elt_ok (hl : ns.length = 60) (ho : ∀ n ∈ ns, Low n) {x2 : DE} (h0 : 0 ≤ k) (h1 : k ≤ 6) {j : Int} (j0 : 0 ≤ j) (j1 : j ≤ 4) : ∃ n, mElt [x0, .pu (.lst (ns.map D.int)), x2, .pu (.int k), x4, x5, x6, x7, x8, x9, x10, x11, .pu (.int j)] = some (.int n) ∧ Six n := by
  generalize hρ : [x0, .pu (.lst (ns.map D.int)), x2, .pu (.int k), x4, x5, x6, x7, x8, x9, x10, x11, .pu (.int j)] = ρ
  have v1 : mVar 1 ρ = some (.lst (ns.map D.int)) := by rw [← hρ]; rfl
  have v3 : In (mVar 3) ρ k := by rw [← hρ]; rfl
  have v12 : In (mVar 12) ρ j := by rw [← hρ]; rfl
  have e1 : In (mOp addD (mOp addD (mC (.int 1)) (mOp mulD (mC (.int 6)) (mVar 3))) (mVar 12)) ρ (1 + 6 * k + j) := in_add (in_add rfl (in_mul rfl v3 (.inl (by decide)))) v12
  obtain ⟨a, ea, la⟩ := num_ix hl ho (i := 1 + 6 * k + j) (by omega) (by omega)
  have e2 : In (mOp ixD (mVar 1) (mOp addD (mOp addD (mC (.int 1)) (mOp mulD (mC (.int 6)) (mVar 3))) (mVar 12))) ρ a := (ev_op v1 e1).trans ea
  have e3 : In (mOp addD (mC (.int 43)) (mVar 12)) ρ (43 + j) := in_add rfl v12
  obtain ⟨b, eb, lb⟩ := num_ix hl ho (i := 43 + j) (by omega) (by omega)
  have e4 : In (mOp modD (mOp ixD (mVar 1) (mOp addD (mC (.int 43)) (mVar 12))) (mC (.int 3))) ρ (b % 3) := in_mod ((ev_op v1 e3).trans eb) rfl (by decide)
  have b0 := Int.emod_nonneg b (b := 3) (by decide)
  have b1 := Int.emod_lt_of_pos b (b := 3) (by decide)
  obtain ⟨y, hy, ey⟩ := at_mem (xs := [D.int 1, D.int 0, D.int 991]) b0 b1
  have hy' : ∃ c, y = D.int c ∧ -(2 ^ 64) < c ∧ c < 2 ^ 64 := by
    simp only [List.mem_cons, List.not_mem_nil, or_false] at hy
    rcases hy with rfl | rfl | rfl
    · exact ⟨1, rfl, by decide⟩
    · exact ⟨0, rfl, by decide⟩
    · exact ⟨991, rfl, by decide⟩
  obtain ⟨c, rfl, hc⟩ := hy'
  have e5 : In (mOp ixD (mLst (few (mCons (mC (.int 1)) (mCons (mC (.int 0)) (mCons (mC (.int 991)) mNil))))) (mOp modD (mOp ixD (mVar 1) (mOp addD (mC (.int 43)) (mVar 12))) (mC (.int 3)))) ρ c := (ev_op (rfl : _ = some (D.lst [D.int 1, D.int 0, D.int 991])) e4).trans (show ixD (.lst [D.int 1, D.int 0, D.int 991]) (.int (b % 3)) = some (D.int c) from ey)
  exact ⟨_, in_mod (in_mul e2 e5 (.inr hc)) rfl (by decide), Int.emod_nonneg _ (by decide), Int.emod_lt_of_pos _ (by decide)⟩
theorem place_ok (hl : ns.length = 60) (ho : ∀ n ∈ ns, Low n) {x2 : DE} (h0 : 0 ≤ k) (h1 : k ≤ 6) : ∃ p, mPlace [x0, .pu (.lst (ns.map D.int)), x2, .pu (.int k), x4, x5, x6, x7, x8, x9, x10, x11, .un] = some (tupI p) ∧ RowOk p := by
  have e1 : In (mOp addD (mC (.int 6)) (mOp mulD (mC (.int 6)) (mVar 3))) [x0, .pu (.lst (ns.map D.int)), x2, .pu (.int k), x4, x5, x6, x7, x8, x9, x10, x11, .un] (6 + 6 * k) := in_add rfl (in_mul rfl rfl (.inl (by decide)))
  obtain ⟨a, ea, la⟩ := num_ix hl ho (i := 6 + 6 * k) (by omega) (by omega)
  have e2 : In (mOp modD (mOp ixD (mVar 1) (mOp addD (mC (.int 6)) (mOp mulD (mC (.int 6)) (mVar 3)))) (mC (.int 5))) [x0, .pu (.lst (ns.map D.int)), x2, .pu (.int k), x4, x5, x6, x7, x8, x9, x10, x11, .un] (a % 5) := in_mod ((ev_op rfl e1).trans ea) rfl (by decide)
  have b0 := Int.emod_nonneg a (b := 5) (by decide)
  have b1 := Int.emod_lt_of_pos a (b := 5) (by decide)
  obtain ⟨out, e3, l3, o3⟩ := lc_ints (k := 12) (e := mElt) (P := Six) (ρ := [x0, .pu (.lst (ns.map D.int)), x2, .pu (.int k), x4, x5, x6, x7, x8, x9, x10, x11, .un]) (ds := rangeD 0 (a % 5).toNat) (fun d hd => by
    unfold rangeD at hd
    obtain ⟨i, hi, rfl⟩ := List.mem_map.mp hd
    rw [List.mem_range] at hi
    exact elt_ok hl ho h0 h1 (by omega) (by omega))
  have e4 : mLc (mRange1 (mCons (mOp modD (mOp ixD (mVar 1) (mOp addD (mC (.int 6)) (mOp mulD (mC (.int 6)) (mVar 3)))) (mC (.int 5))) mNil)) (gN 12) mYes mElt [12] [x0, .pu (.lst (ns.map D.int)), x2, .pu (.int k), x4, x5, x6, x7, x8, x9, x10, x11, .un] = some (out.map D.int) := by
    rw [ev_lc (ev_range1 (ev_cons e2 rfl) (by omega)) (by simp [rangeD]; omega)]
    exact e3
  refine ⟨out, ?_, ?_, o3⟩
  · show mCall tupleD (mCons (mLst _) mNil) _ = _
    rw [ev_call (ev_cons (ev_lst e4) rfl)]
    rfl
  · rw [l3]
    simp [rangeD]
    omega
theorem row_step (hl : ns.length = 60) (ho : ∀ n ∈ ns, Low n) (h0 : 0 ≤ k) (h1 : k ≤ 6) (hr : rows.length ≤ 100) : ∃ p, RowOk p ∧ mRowB [x0, .pu (.lst (ns.map D.int)), .ow (rows.map tupI), .pu (.int k), x4, x5, x6, x7, x8, x9, x10, x11, .un] =
    some (.nx [x0, .pu (.lst (ns.map D.int)), .ow ((if p ∈ rows then rows else rows ++ [p]).map tupI), .pu (.int k), .pu (tupI p), x5, x6, x7, x8, x9, x10, x11, .un]) := by
  obtain ⟨p, ep, hp⟩ := place_ok (x0 := x0) (x4 := x4) (x5 := x5) (x6 := x6) (x7 := x7) (x8 := x8) (x9 := x9) (x10 := x10) (x11 := x11) (x2 := .ow (rows.map tupI)) hl ho h0 h1
  refine ⟨p, hp, ?_⟩
  show mSeq (mAsg 4 mPlace) _ _ = _
  rw [ev_seq (ev_asg' (ρ' := [x0, .pu (.lst (ns.map D.int)), .ow (rows.map tupI), .pu (.int k), .pu (tupI p), x5, x6, x7, x8, x9, x10, x11, .un]) ep rfl)]
  have ht : (fun ρ => (mTest (mOp ninD (mVar 4) (mVar 2))) (frz 2 ρ)) [x0, .pu (.lst (ns.map D.int)), .ow (rows.map tupI), .pu (.int k), .pu (tupI p), x5, x6, x7, x8, x9, x10, x11, .un] = some (!decide (p ∈ rows)) := by
    show mTest (mOp ninD (mVar 4) (mVar 2)) [x0, .pu (.lst (ns.map D.int)), .pu (.lst (rows.map tupI)), .pu (.int k), .pu (tupI p), x5, x6, x7, x8, x9, x10, x11, .un] = _
    rw [ev_test ((ev_op rfl rfl).trans (nin_rows p rows))]
    rfl
  by_cases hm : p ∈ rows
  · rw [decide_eq_true hm] at ht
    rw [if_pos hm]
    exact (ev_ifS_f (t := fun ρ => (mTest (mOp ninD (mVar 4) (mVar 2))) (frz 2 ρ)) ht).trans rfl
  · rw [decide_eq_false hm] at ht
    rw [if_neg hm]
    refine (ev_ifS_t (t := fun ρ => (mTest (mOp ninD (mVar 4) (mVar 2))) (frz 2 ρ)) ht).trans ?_
    show (if (rows.map tupI).length < big then some (Out.nx [x0, .pu (.lst (ns.map D.int)), .ow (rows.map tupI ++ [tupI p]), .pu (.int k), .pu (tupI p), x5, x6, x7, x8, x9, x10, x11, .un]) else none) = _
    rw [List.map_append]
    refine if_pos ?_
    rw [List.length_map, big_eq]
    omega
end
theorem for_rows {x0 x5 x6 x7 x8 x9 x10 x11 : DE} {ns : List Int} (hl : ns.length = 60) (ho : ∀ n ∈ ns, Low n) : ∀ (ks : List Int) (rows : List (List Int)) (x3 x4 : DE), rows.length + ks.length ≤ 50 → (∀ k ∈ ks, 0 ≤ k ∧ k ≤ 6) → rows.Nodup → (∀ r ∈ rows, RowOk r) →
    ∃ (out : List (List Int)) (x3' x4' : DE), forL (gN 3) mRowB (ks.map D.int) [x0, .pu (.lst (ns.map D.int)), .ow (rows.map tupI), x3, x4, x5, x6, x7, x8, x9, x10, x11, .un] = some (.nx [x0, .pu (.lst (ns.map D.int)), .ow (out.map tupI), x3', x4', x5, x6, x7, x8, x9, x10, x11, .un]) ∧
      out.Nodup ∧ (∀ r ∈ out, RowOk r) ∧ out.length ≤ rows.length + ks.length ∧ (ks ≠ [] ∨ rows ≠ [] → out ≠ [])
  | [], rows, x3, x4, _, _, hn, hr => ⟨rows, x3, x4, rfl, hn, hr, by simp, fun h => by simpa using h⟩
  | k :: ks, rows, x3, x4, hz, hk, hn, hr => by
    obtain ⟨p, hp, e⟩ := row_step (x0 := x0) (x4 := x4) (x5 := x5) (x6 := x6) (x7 := x7) (x8 := x8) (x9 := x9) (x10 := x10) (x11 := x11) (rows := rows) hl ho (hk k (by simp)).1 (hk k (by simp)).2 (by simp at hz; omega)
    generalize hq : (if p ∈ rows then rows else rows ++ [p]) = rows' at e
    have f : rows'.Nodup ∧ (∀ r ∈ rows', RowOk r) ∧ rows'.length ≤ rows.length + 1 ∧ rows' ≠ [] := by
      by_cases hm : p ∈ rows
      · rw [if_pos hm] at hq
        subst hq
        exact ⟨hn, hr, by omega, fun e => by rw [e] at hm; cases hm⟩
      · rw [if_neg hm] at hq
        subst hq
        refine ⟨?_, fun r h => ?_, by simp, by simp⟩
        · rw [List.nodup_append]
          refine ⟨hn, by simp, fun a ha b hb => ?_⟩
          rw [List.mem_singleton] at hb
          rintro rfl
          exact hm (hb ▸ ha)
        · rcases List.mem_append.mp h with h | h
          · exact hr r h
          · rw [List.mem_singleton] at h; rw [h]; exact hp
    obtain ⟨out, x3', x4', e2, g1, g2, g3, g4⟩ := for_rows (x0 := x0) (x5 := x5) (x6 := x6) (x7 := x7) (x8 := x8) (x9 := x9) (x10 := x10) (x11 := x11) hl ho ks rows' (.pu (.int k)) (.pu (tupI p)) (by simp at hz; omega) (fun k h => hk k (by simp [h])) f.1 f.2.1
    refine ⟨out, x3', x4', ?_, g1, g2, by simp; omega, fun _ => g4 (.inr f.2.2.2)⟩
    show (mRowB [x0, .pu (.lst (ns.map D.int)), .ow (rows.map tupI), .pu (.int k), x4, x5, x6, x7, x8, x9, x10, x11, .un]).bind _ = _
    rw [e]
    exact e2
end K85

set_option Elab.async false
set_option linter.all false
set_option maxRecDepth 100000
set_option maxHeartbeats 4000000
namespace K85
open PySem PySem.Spec PyProof.Rows L2 Evl DD
/-! M14: sorted rows rise; the words of places -/
theorem rising_of : ∀ {l : List (List Int)}, SrtT l → l.Nodup → rising l = true
  | [], _, _ => rfl
  | [a], _, _ => rfl
  | a :: b :: r, h, hn => by
    have h1 := (List.pairwise_cons.mp h).1 b (by simp)
    have ih := rising_of (List.pairwise_cons.mp h).2 (List.nodup_cons.mp hn).2
    show (HT.lexLt a b && rising (b :: r)) = true
    rw [ih, Bool.and_true]
    cases e : HT.lexLt a b with
    | true => rfl
    | false =>
      have := lex_eq a b e h1
      subst this
      exact absurd (by simp) (List.nodup_cons.mp hn).1
theorem tups_map : ∀ rows : List (List Int), tupsI (rows.map tupI) = some rows
  | [] => rfl
  | r :: rows => by
    show (intsD (r.map D.int)).bind (fun ns => (tupsI (rows.map tupI)).map (ns :: ·)) = _
    rw [intsD_map, tups_map rows]
    rfl
theorem sort_ok {rows : List (List Int)} (hn : rows.Nodup) (hr : ∀ r ∈ rows, RowOk r) (hne : rows ≠ []) : ∃ l, sortTD [.lst (rows.map tupI)] = some (rowsD l) ∧ rising l = true ∧ (∀ r ∈ l, RowOk r) ∧ l ≠ [] ∧ l.length = rows.length := by
  have p := sortT_perm rows
  refine ⟨sortT rows, ?_, rising_of (sortT_srt rows) (p.nodup_iff.mpr hn), fun r h => hr r (p.mem_iff.mp h), fun e => hne ?_, p.length_eq⟩
  · show (tupsI (rows.map tupI)).map _ = _
    rw [tups_map]
    rfl
  · rw [e] at p
    exact List.nil_perm.mp p
def wordI (n : Int) : Str := Str.ofString (toString n)
def wordP (ns : List Int) : Str := if ns = [] then "." else Txt.join "." (ns.map wordI)
theorem tl_wordI {n : Int} (h : Six n) : tl (wordI n) = TL.numL n.toNat := by
  have e : n = ((n.toNat : Nat) : Int) := by have := h.1; omega
  unfold wordI
  rw [e]
  exact TL.tl_num n.toNat
theorem len_wordI {n : Int} (h : Six n) : (tl (wordI n)).length ≤ 6 := by
  rw [tl_wordI h]
  exact TL.numL_len (by decide) (by have := h.2; have := h.1; omega)
theorem dig_wordI {n : Int} (h : Six n) : ∀ c ∈ tl (wordI n), 48 ≤ c ∧ c ≤ 57 := fun c hc => by
  rw [tl_wordI h] at hc
  exact TL.numL_digits n.toNat c hc
theorem ok_wordI {n : Int} (h : Six n) : Ok 6 (wordI n) := ⟨by rw [len_tl]; exact len_wordI h, fun c hc => by have := dig_wordI h c hc; omega⟩
theorem numL_head : ∀ n : Nat, 10 ≤ n → (TL.numL n).head? ≠ some 48 := fun n => by
  induction n using Nat.strongRecOn with
  | _ n ih =>
    intro hn
    rw [TL.numL_step hn]
    by_cases h : n / 10 < 10
    · rw [TL.numL_lt h]
      show some (48 + n / 10) ≠ some 48
      simp
      omega
    · have := ih (n / 10) (by omega) (by omega)
      have hne := TL.numL_ne (n / 10)
      cases e : TL.numL (n / 10) with
      | nil => exact absurd e hne
      | cons c r =>
        rw [e] at this
        exact this
theorem isNum_wordI {n : Int} (h : Six n) : isNum (wordI n) = true := by
  have e := tl_wordI h
  have l6 := len_wordI h
  have hne := TL.numL_ne n.toNat
  have l1 : 1 ≤ (tl (wordI n)).length := by
    rw [e]
    cases hh : TL.numL n.toNat with
    | nil => exact absurd hh hne
    | cons c r => simp
  have hd : (tl (wordI n)).all isDig = true := List.all_eq_true.mpr fun c hc => by
    have := dig_wordI h c hc
    simp [isDig, this]
  have hz : zeroAhead (wordI n) = false := by
    unfold zeroAhead
    by_cases h10 : n.toNat < 10
    · have : ¬ 1 < (wordI n).length := by
        rw [len_tl, e, TL.numL_lt h10]
        simp
      rw [decide_eq_false this]
      rfl
    · rw [e, decide_eq_false (numL_head n.toNat (by omega)), Bool.and_false]
  unfold isNum
  rw [len_tl, decide_eq_true l1, decide_eq_true l6, hd, hz]
  rfl
theorem numW_wordI {n : Int} (h : Six n) : numW (wordI n) = some n := by
  unfold numW
  rw [if_pos (isNum_wordI h)]
  have e : n = ((n.toNat : Nat) : Int) := by have := h.1; omega
  have l := len_wordI h
  rw [tl_wordI h] at l
  have := TL.int_num (n := n.toNat) (by omega)
  rw [← e] at this
  exact this
theorem allW_map {α β : Type} {f : β → Option α} {g : α → β} : ∀ {l : List α}, (∀ a ∈ l, f (g a) = some a) → allW f (l.map g) = some l
  | [], _ => rfl
  | a :: l, h => by
    show (f (g a)).bind (fun b => (allW f (l.map g)).map (b :: ·)) = _
    rw [h a (by simp), allW_map fun b hb => h b (by simp [hb])]
    rfl
theorem split_back {b : Str} {s : Nat} (hb : tl b = [s]) (hs : s < 256) {parts : List Str} (hne : parts ≠ []) (hp : ∀ p ∈ parts, s ∉ tl p) : Txt.split (Txt.join b parts) b = parts :=
  TL.split_join (s := s) (S := []) hb (by
    have : b.cps.toList.all (· < 256) = true := by
      show (tl b).all (· < 256) = true
      rw [hb]
      simp [hs]
    simpa using this) hne hp
theorem wordI_free {n : Int} {s : Nat} (h : Six n) (hs : s < 48 ∨ 57 < s) : s ∉ tl (wordI n) := fun hm => by
  have := dig_wordI h s hm
  omega
theorem wt_words : ∀ {ns : List Int}, (∀ n ∈ ns, Six n) → wt (ns.map wordI) ≤ 7 * ns.length
  | [], _ => by simp [wt]
  | n :: ns, h => by
    have ih := wt_words (ns := ns) fun m hm => h m (by simp [hm])
    have := (ok_wordI (h n (by simp))).l
    rw [List.map_cons, wt_cons, List.length_cons]
    omega
theorem ok_wordP {ns : List Int} (h : RowOk ns) : Ok 28 (wordP ns) := by
  unfold wordP
  split
  · exact okS 28 [46] (by decide)
  · refine Ok.join tl_dot (by decide) ?_ fun y hy => ?_
    · have := wt_words h.2
      have := h.1
      omega
    · obtain ⟨n, hn, rfl⟩ := List.mem_map.mp hy
      exact (ok_wordI (h.2 n hn)).c
theorem wordP_free {ns : List Int} {s : Nat} (h : RowOk ns) (hs : s < 46) : s ∉ tl (wordP ns) := by
  unfold wordP
  split
  · rw [tl_dot]
    simp
    omega
  · intro hm
    rw [tl_join, tl_dot] at hm
    rcases joinL_mem hm with hm | ⟨p, h1, h2⟩
    · simp at hm
      omega
    · obtain ⟨y, hy, rfl⟩ := List.mem_map.mp h1
      obtain ⟨n, hn, rfl⟩ := List.mem_map.mp hy
      exact wordI_free (h.2 n hn) (by omega) h2
theorem place_back {ns : List Int} (h : RowOk ns) : placeW (wordP ns) = some ns := by
  unfold wordP
  by_cases hn : ns = []
  · rw [if_pos hn, hn]
    unfold placeW
    rw [if_pos rfl]
  · rw [if_neg hn]
    have hs : Txt.split (Txt.join "." (ns.map wordI)) "." = ns.map wordI := split_back tl_dot (by decide) (by simpa using hn) fun p hp => by
      obtain ⟨n, hn, rfl⟩ := List.mem_map.mp hp
      exact wordI_free (h.2 n hn) (by omega)
    have hd : Txt.join "." (ns.map wordI) ≠ "." := fun e => by
      rw [e] at hs
      cases ns with
      | nil => exact hn rfl
      | cons n r =>
        have e2 : Txt.split "." "." = ([⟨#[]⟩, ⟨#[]⟩] : List Str) := by decide +kernel
        rw [e2] at hs
        have e3 : (⟨#[]⟩ : Str) = wordI n := (List.cons.inj hs).1
        have l := isNum_wordI (h.2 n (by simp))
        rw [← e3] at l
        exact absurd l (by decide +kernel)
    unfold placeW
    rw [if_neg hd, hs]
    exact allW_map fun n hn => numW_wordI (h.2 n hn)
end K85

set_option Elab.async false
set_option linter.all false
set_option maxRecDepth 100000
set_option maxHeartbeats 4000000
namespace K85
open PySem PySem.Spec PyProof.Rows L2 Evl DD
/-! M15: the functions that write places -/
theorem strD_ok {n : Int} (h : Six n) : strD [.int n] = some (.str (wordI n)) := by
  have : n.natAbs.log2 < 1920 := by
    have h1 : n.natAbs < 2 ^ 20 := by have := h.1; have := h.2; omega
    by_cases h0 : n.natAbs = 0
    · rw [h0]; decide
    · have := (Nat.log2_lt h0).mpr h1
      omega
  exact if_pos this
theorem lc_str {ns : List Int} {x0 : DE} (h : ∀ n ∈ ns, Six n) : lcL (gN 1) mYes (mCall strD (mCons (mVar 1) mNil)) [x0, .un] (ns.map D.int) = some ((ns.map wordI).map D.str) := by
  have := lc_call (F := strD) (k := 1) (ρ := [x0, .un]) (g := fun d => match d with | .val (.int n) => .str (wordI n) | _ => .non) (by simp) (ds := ns.map D.int) (fun d hd => by
    obtain ⟨n, hn, rfl⟩ := List.mem_map.mp hd
    exact strD_ok (h n hn))
  rw [this, List.map_map, List.map_map]
  rfl
theorem join_words {ns : List Int} (h : RowOk ns) : joinD (.str ".") [.lst ((ns.map wordI).map D.str)] = some (.str (Txt.join "." (ns.map wordI))) := by
  show (strsD ((ns.map wordI).map D.str)).bind (fun ys => if (ys.map (·.length)).sum + ys.length * ("." : Str).length ≤ big then some (D.str (Txt.join "." ys)) else none) = _
  rw [strsD_map]
  refine if_pos ?_
  rw [len_tl ".", tl_dot]
  show ((ns.map wordI).map (·.length)).sum + (ns.map wordI).length * 1 ≤ big
  rw [wt_sum, big_eq]
  have := wt_words h.2
  have := h.1
  omega
theorem F_word_ok {ns : List Int} (h : RowOk ns) : F_place_word [tupI ns] = some (.str (wordP ns)) := by
  refine ev_runF rfl (ev_ret ?_)
  show mIf (mTru (mVar 0)) _ _ [.pu (tupI ns), .un] = _
  have ht : mTru (mVar 0) [.pu (tupI ns), .un] = some (!(ns.map D.int).isEmpty) := rfl
  cases hn : ns with
  | nil =>
    subst hn
    rw [ev_if_f ht]
    unfold wordP
    rw [if_pos rfl]
    rfl
  | cons a r =>
    rw [← hn]
    have ht2 : mTru (mVar 0) [.pu (tupI ns), .un] = some true := by rw [ht, hn]; rfl
    rw [ev_if_t ht2]
    have e1 : mLc (mItems (mVar 0)) (gN 1) mYes (mCall strD (mCons (mVar 1) mNil)) [1] [.pu (tupI ns), .un] = some ((ns.map wordI).map D.str) := by
      rw [ev_lc (rfl : mItems (mVar 0) [.pu (tupI ns), .un] = some (ns.map D.int)) (by rw [List.length_map]; have := h.1; omega)]
      exact lc_str h.2
    rw [ev_meth rfl (ev_cons (ev_lst e1) rfl), join_words h]
    unfold wordP
    rw [if_neg (by rw [hn]; simp)]
theorem F_lawWord_ok {ns : List Int} (h : RowOk ns) : F__law_place_word [tupI ns] = some (.str (wordP ns)) := by
  refine ev_runF rfl ?_
  show m__law_place_word [.pu (tupI ns), .un] = _
  have ht : mTest (mOp eqD (mVar 0) (mTup mNil)) [.pu (tupI ns), .un] = some (decide (ns = [])) := by
    have e : eqD (tupI ns) (.tup []) = some (.bl (decide (ns = []))) := by
      have e2 : deepD (tupI ns) (tupI []) = some (decide (ns = [])) := by
        have s1 : ∀ p : List Int, SeqAt.shaped (.tuple (p.map .int)) = true := fun p => by
          unfold SeqAt.shaped
          rw [PyData.canLay0, canLay_ints, PyData.depth, depth_ints]
          rfl
        unfold deepD
        rw [pd_tupI, pd_tupI]
        simp only [Option.bind_some, s1, Bool.and_self, if_true]
        show some (PyData.eqvAll (ns.map PyData.int) (([] : List Int).map PyData.int)) = _
        rw [eqv_ints]
      unfold eqD sameD
      show (deepD (tupI ns) (tupI [])).map D.bl = _
      rw [e2]
      rfl
    rw [ev_test ((ev_op rfl rfl).trans e)]
    rfl
  unfold m__law_place_word
  by_cases hn : ns = []
  · rw [decide_eq_true hn] at ht
    rw [ev_seq_rt ((ev_ifS_t ht).trans rfl)]
    unfold wordP
    rw [if_pos hn]
  · rw [decide_eq_false hn] at ht
    rw [ev_seq ((ev_ifS_f ht).trans rfl)]
    refine ev_ret ?_
    have e1 : mLc (mItemsK (mVar 0)) (gN 1) mYes (mCall strD (mCons (mVar 1) mNil)) [1] [.pu (tupI ns), .un] = some ((ns.map wordI).map D.str) := by
      rw [ev_lc (rfl : mItemsK (mVar 0) [.pu (tupI ns), .un] = some (ns.map D.int)) (by rw [List.length_map]; have := h.1; omega)]
      exact lc_str h.2
    rw [ev_meth rfl (ev_cons (ev_lst e1) rfl), join_words h]
    unfold wordP
    rw [if_neg hn]
theorem F_show_ok {ns : List Int} (h : RowOk ns) : F_show_place [tupI ns] = some (.str (wordP ns)) := by
  refine ev_runF rfl (ev_ret ?_)
  exact (ev_call (ev_cons rfl rfl)).trans (F_word_ok h)
/-- words of rows, put together -/
def wordsP (rows : List (List Int)) : Str := Txt.join " " (rows.map wordP)
theorem wt_rows : ∀ {rows : List (List Int)}, (∀ r ∈ rows, RowOk r) → wt (rows.map wordP) ≤ 29 * rows.length
  | [], _ => by simp [wt]
  | n :: ns, h => by
    have ih := wt_rows (rows := ns) fun m hm => h m (by simp [hm])
    have := (ok_wordP (h n (by simp))).l
    rw [List.map_cons, wt_cons, List.length_cons]
    omega
theorem ok_wordsP {rows : List (List Int)} (h : ∀ r ∈ rows, RowOk r) (hl : rows.length ≤ 20) : Ok 1000 (wordsP rows) := by
  refine Ok.join tl_sp (by decide) ?_ fun y hy => ?_
  · have := wt_rows h
    omega
  · obtain ⟨n, hn, rfl⟩ := List.mem_map.mp hy
    exact (ok_wordP (h n hn)).c
theorem join_rows {rows : List (List Int)} (h : ∀ r ∈ rows, RowOk r) (hl : rows.length ≤ 20) : joinD (.str " ") [.lst ((rows.map wordP).map D.str)] = some (.str (wordsP rows)) := by
  show (strsD ((rows.map wordP).map D.str)).bind (fun ys => if (ys.map (·.length)).sum + ys.length * (" " : Str).length ≤ big then some (D.str (Txt.join " " ys)) else none) = _
  rw [strsD_map]
  refine if_pos ?_
  rw [len_tl " ", tl_sp]
  show ((rows.map wordP).map (·.length)).sum + (rows.map wordP).length * 1 ≤ big
  rw [wt_sum, big_eq]
  have := wt_rows h
  omega
def wpD : D → D
  | .tup ds => match intsD ds with
    | some ns => .str (wordP ns)
    | none => .non
  | _ => .non
theorem wpD_tup (ns : List Int) : wpD (tupI ns) = .str (wordP ns) := by
  show (match intsD (ns.map D.int) with
    | some ns => D.str (wordP ns)
    | none => .non) = _
  rw [intsD_map]
theorem wp_map (rows : List (List Int)) : (rows.map tupI).map wpD = (rows.map wordP).map D.str := by
  rw [List.map_map, List.map_map]
  apply List.map_congr_left
  intro r _
  exact wpD_tup r
theorem F_shows_ok {rows : List (List Int)} (h : ∀ r ∈ rows, RowOk r) (hl : rows.length ≤ 20) : F_show_places [rowsD rows] = some (.str (wordsP rows)) := by
  refine ev_runF rfl (ev_ret ?_)
  have e1 : mLc (mItems (mVar 0)) (gN 1) mYes (mCall F_place_word (mCons (mVar 1) mNil)) [1] [.pu (rowsD rows), .un] = some ((rows.map wordP).map D.str) := by
    rw [← wp_map]
    refine lc_ev rfl (by rw [List.length_map]; omega) (by simp) fun d hd => ?_
    obtain ⟨r, hr, rfl⟩ := List.mem_map.mp hd
    rw [wpD_tup]
    exact F_word_ok (h r hr)
  exact (ev_meth rfl (ev_cons (ev_lst e1) rfl)).trans (join_rows h hl)
/-! ### read back -/
theorem wordsP_free {rows : List (List Int)} {s : Nat} (h : ∀ r ∈ rows, RowOk r) (hs : s < 46) (h32 : s ≠ 32) : s ∉ tl (wordsP rows) := fun hm => by
  unfold wordsP at hm
  rw [tl_join, tl_sp] at hm
  rcases joinL_mem hm with hm | ⟨p, h1, h2⟩
  · simp at hm
    omega
  · obtain ⟨y, hy, rfl⟩ := List.mem_map.mp h1
    obtain ⟨n, hn, rfl⟩ := List.mem_map.mp hy
    exact wordP_free (h n hn) hs h2
theorem places_back {rows : List (List Int)} (h : ∀ r ∈ rows, RowOk r) (hne : rows ≠ []) (hr : rising rows = true) : placesW (Txt.split (wordsP rows) " ") = some rows := by
  have hs : Txt.split (wordsP rows) " " = rows.map wordP := split_back tl_sp (by decide) (by simpa using hne) fun p hp => by
    obtain ⟨n, hn, rfl⟩ := List.mem_map.mp hp
    exact wordP_free (h n hn) (by decide)
  unfold placesW
  rw [hs, allW_map fun r hm => place_back (h r hm)]
  simp [hr]
theorem out_one {g : Str → Option D} {z : Str} {d : D} (h10 : 10 ∉ tl z) (h : g z = some d) : outW g z = .ok d := by
  unfold outW
  rw [split_none tl_nl (by decide) h10]
  simp [runLines, h]
theorem out_first {ns : List Int} (h : RowOk ns) : noteX (outK false (wordP ns)) = tupI ns := by
  unfold outK
  rw [if_neg (by decide), out_one (wordP_free h (by decide)) (d := tupI ns) (by unfold g0; rw [place_back h]; rfl)]
  rfl
theorem out_second {rows : List (List Int)} (h : ∀ r ∈ rows, RowOk r) (hne : rows ≠ []) (hr : rising rows = true) : noteX (outK true (wordsP rows)) = rowsD rows := by
  have hz : wordsP rows ≠ "" := fun e => by
    have hs : Txt.split (wordsP rows) " " = rows.map wordP := split_back tl_sp (by decide) (by simpa using hne) fun p hp => by
      obtain ⟨n, hn, rfl⟩ := List.mem_map.mp hp
      exact wordP_free (h n hn) (by decide)
    have e2 : Txt.split "" " " = ([⟨#[]⟩] : List Str) := by decide +kernel
    rw [e, e2] at hs
    cases rows with
    | nil => exact hne rfl
    | cons r rows =>
      have e3 : (⟨#[]⟩ : Str) = wordP r := (List.cons.inj hs).1
      have hb := place_back (h r (by simp))
      rw [← e3] at hb
      have : placeW ⟨#[]⟩ = none := by
        have e4 : Txt.split (⟨#[]⟩ : Str) "." = ([⟨#[]⟩] : List Str) := by decide +kernel
        unfold placeW
        rw [if_neg (by decide), e4]
        rfl
      rw [this] at hb
      cases hb
  unfold outK
  rw [if_pos rfl, if_neg hz, out_one (wordsP_free h (by decide) (by decide)) (d := rowsD rows) (by unfold g1; rw [places_back h hne hr]; rfl)]
  rfl
end K85

set_option Elab.async false
set_option linter.all false
set_option maxRecDepth 100000
set_option maxHeartbeats 4000000
namespace K85
open PySem PySem.Spec PyProof.Rows L2 Evl DD
/-! M16: the loops of the law -/
theorem for_inv {I : DEnv → Prop} {f : D → DEnv → Option DEnv} {body : MS} : ∀ {ds : List D}, (∀ d ∈ ds, ∀ ρ, I ρ → ∃ ρ1, f d ρ = some ρ1 ∧ ∃ ρ2, body ρ1 = some (.nx ρ2) ∧ I ρ2) → ∀ ρ, I ρ → ∃ ρ', forL f body ds ρ = some (.nx ρ') ∧ I ρ'
  | [], _, ρ, h => ⟨ρ, rfl, h⟩
  | d :: ds, hb, ρ, h => by
    obtain ⟨ρ1, e1, ρ2, e2, i2⟩ := hb d (by simp) ρ h
    obtain ⟨ρ', e3, i3⟩ := for_inv (ds := ds) (fun d hd => hb d (by simp [hd])) ρ2 i2
    refine ⟨ρ', ?_, i3⟩
    show (f d ρ).bind _ = _
    rw [e1]
    show (body ρ1).bind _ = _
    rw [e2]
    exact e3
structure Fix (l : List (Nat × D)) (ρ : DEnv) : Prop where
  n : ρ.length = 13
  v : ∀ p ∈ l, mVar p.1 ρ = some p.2
theorem Fix.set {l : List (Nat × D)} {ρ : DEnv} {j : Nat} {x : DE} (h : Fix l ρ) (hj : ∀ p ∈ l, p.1 ≠ j := by decide) : Fix l (ρ.set j x) := ⟨by rw [List.length_set]; exact h.n, fun p hp => by
  have := h.v p hp
  unfold mVar at this ⊢
  rw [List.getElem?_set_ne (Ne.symm (hj p hp))]
  exact this⟩
theorem Fix.add {l : List (Nat × D)} {ρ : DEnv} {j : Nat} {d : D} (h : Fix l ρ) (hl : j < 13) (hj : ∀ p ∈ l, p.1 ≠ j) : Fix ((j, d) :: l) (ρ.set j (.pu d)) := ⟨by rw [List.length_set]; exact h.n, fun p hp => by
  rcases List.mem_cons.mp hp with rfl | hp
  · show mVar j (ρ.set j (.pu d)) = some d
    unfold mVar
    rw [List.getElem?_set_self (by rw [h.n]; exact hl)]
  · exact (h.set (x := .pu d) hj).v p hp⟩
theorem Fix.sub {l l' : List (Nat × D)} {ρ : DEnv} (h : Fix l ρ) (hl : ∀ p ∈ l', p ∈ l) : Fix l' ρ := ⟨h.n, fun p hp => h.v p (hl p hp)⟩
theorem ev_for {mi : MA} {f : D → DEnv → Option DEnv} {body : MS} {ρ : DEnv} {ds : List D} (h : mi ρ = some ds) : mFor mi f body ρ = forL f body ds ρ := by
  unfold mFor
  rw [h]
  rfl
section
variable {C f_read_places f_read_place : Addr} {TX : Addr → Option (List D → Option Res)}
theorem kinds {d : D} (h : d ∈ [D.int 0, D.int 1]) : ∃ k, d = .int (kI k) := by
  simp only [List.mem_cons, List.not_mem_nil, or_false] at h
  rcases h with rfl | rfl
  · exact ⟨false, rfl⟩
  · exact ⟨true, rfl⟩
/-- one text, both kinds -/
theorem test_ok (T : TXOk C f_read_places f_read_place TX) {f : D → D → Option D} (hf : ∀ d, Even d → Deep d → f d d = some (.bl false)) {i : Nat} {z : Str} (hs : small z) (hc : okC z) {ρ : DEnv} {k : Bool} (h11 : mVar 11 ρ = some (.int (kI k))) (hi : mVar i ρ = some (.str z)) :
    mIfS (mTest (mOp f (mCall (F__law_note C f_read_places f_read_place TX) (mCons (mVar 11) (mCons (mVar i) mNil))) (mCall F__law_due (mCons (mVar 11) (mCons (mVar i) mNil))))) (mRet (mC (.bl false))) mNext ρ = some (.nx ρ) := by
  have e1 : mCall (F__law_note C f_read_places f_read_place TX) (mCons (mVar 11) (mCons (mVar i) mNil)) ρ = some (noteX (outK k z)) := (ev_call (ev_cons h11 (ev_cons hi rfl))).trans (T.n z k hs)
  have e2 : mCall F__law_due (mCons (mVar 11) (mCons (mVar i) mNil)) ρ = some (noteX (outK k z)) := (ev_call (ev_cons h11 (ev_cons hi rfl))).trans (F_due_ok hs hc k)
  have e3 := ev_test ((ev_op e1 e2).trans (hf _ (even_note k z) (deep_note k z)))
  exact (ev_ifS_f e3).trans rfl
theorem kinds_ok (T : TXOk C f_read_places f_read_place TX) {f : D → D → Option D} (hf : ∀ d, Even d → Deep d → f d d = some (.bl false)) {i : Nat} {z : Str} (hs : small z) (hc : okC z) {l : List (Nat × D)} (hl : ∀ p ∈ l, p.1 ≠ 11) (hm : (i, D.str z) ∈ l) {mi : MA} {ρ : DEnv} (h : Fix l ρ) (hmi : mi ρ = some [D.int 0, D.int 1]) :
    ∃ ρ', mFor mi (gN 11) (mIfS (mTest (mOp f (mCall (F__law_note C f_read_places f_read_place TX) (mCons (mVar 11) (mCons (mVar i) mNil))) (mCall F__law_due (mCons (mVar 11) (mCons (mVar i) mNil))))) (mRet (mC (.bl false))) mNext) ρ = some (.nx ρ') ∧ Fix l ρ' := by
  rw [ev_for hmi]
  refine for_inv (I := Fix l) (fun d hd ρ hρ => ?_) ρ h
  obtain ⟨k, rfl⟩ := kinds hd
  have h2 := hρ.add (j := 11) (d := .int (kI k)) (by decide) hl
  refine ⟨_, rfl, _, test_ok (k := k) T hf hs hc (h2.v (11, .int (kI k)) List.mem_cons_self) (h2.v (i, .str z) (List.mem_cons_of_mem _ hm)), h2.sub fun p hp => List.mem_cons_of_mem _ hp⟩
def pieceStrs : List Str := [".", "0", " ", "-", "..", "7", "x", "1.2", "\n", "00", "1234567"]
theorem pieces_ok : ∀ p ∈ pieceStrs, Ok 10 p := fun p hp => by
  have h : ∀ p ∈ pieceStrs, (tl p).length ≤ 10 ∧ (tl p).all (· < 1114112) = true := by decide +kernel
  obtain ⟨h1, h2⟩ := h p hp
  exact ⟨by rw [len_tl]; exact h1, fun c hc => by simpa using List.all_eq_true.mp h2 c hc⟩
theorem cut3 {ns : List Int} (hl : ns.length = 60) {t : Int} (h0 : 0 ≤ t) (h1 : t < 5) : ∃ (a b c : Int) (r : List D), DD.cutD (ns.map D.int) (some (44 + 3 * t)) none = .int a :: .int b :: .int c :: r := by
  have e : DD.cutD (ns.map D.int) (some (44 + 3 * t)) none = (ns.drop (44 + 3 * t).toNat).map D.int := by
    unfold DD.cutD
    rw [show (44 + 3 * t) = (((44 + 3 * t).toNat : Nat) : Int) by omega, HT.sIx_nat, HT.sIx_none, List.length_map, Int.toNat_natCast, hl]
    rw [Nat.min_eq_left (by omega), List.map_drop, List.take_of_length_le (by rw [List.length_drop, List.length_map, hl]; exact Nat.le_refl _)]
  rw [e]
  have hd : 3 ≤ (ns.drop (44 + 3 * t).toNat).length := by
    rw [List.length_drop, hl]
    omega
  match ns.drop (44 + 3 * t).toNat, hd with
  | a :: b :: c :: r, _ => exact ⟨a, b, c, r.map D.int, rfl⟩
theorem small_of {n : Nat} {z : Str} (h : Ok n z) (hn : n ≤ 1000000) : small z := Nat.le_trans h.l hn
theorem turns_ok (T : TXOk C f_read_places f_read_place TX) {ns : List Int} (hn : ns.length = 60) {z : Str} (hz : Ok 1000 z) {l : List (Nat × D)} (h1 : (1, D.lst (ns.map D.int)) ∈ l) (h7 : (7, D.lst (pieceStrs.map .str)) ∈ l) (h8 : (8, D.str z) ∈ l) (hl : ∀ p ∈ l, p.1 ≠ 9 ∧ p.1 ≠ 10 ∧ p.1 ≠ 11) {ρ : DEnv} (h : Fix l ρ) :
    ∃ ρ', mFor (mRange1 (mCons (mC (.int 5)) mNil)) (gN 9) (mFor (mItemsL (mCall F__law_texts (mCons (mVar 8) (mCons (mSl slKD (mVar 1) (mPart (mOp addK (mC (.int 44)) (mOp mulD (mC (.int 3)) (mVar 9)))) mNoPart) (mCons (mVar 7) mNil))))) (gN 10) (mFor (mItemsL (mLst (few (mCons (mC (.int 0)) (mCons (mC (.int 1)) mNil))))) (gN 11) (mIfS (mTest (mOp neKD (mCall (F__law_note C f_read_places f_read_place TX) (mCons (mVar 11) (mCons (mVar 10) mNil))) (mCall F__law_due (mCons (mVar 11) (mCons (mVar 10) mNil))))) (mRet (mC (.bl false))) mNext))) ρ = some (.nx ρ') ∧ Fix l ρ' := by
  rw [ev_for (ev_range1 (ev_cons rfl rfl) (by decide))]
  refine for_inv (I := Fix l) (fun d hd ρ hρ => ?_) ρ h
  unfold rangeD at hd
  obtain ⟨t, ht, rfl⟩ := List.mem_map.mp hd
  rw [List.mem_range] at ht
  generalize htt : (0 + (t : Int)) = tt
  have t0 : 0 ≤ tt := by omega
  have t1 : tt < 5 := by
    have : t < 5 := ht
    omega
  have h2 := hρ.add (j := 9) (d := .int tt) (by decide) fun p hp => (hl p hp).1
  refine ⟨_, rfl, ?_⟩
  have v9 : mVar 9 (ρ.set 9 (.pu (.int tt))) = some (.int tt) := h2.v (9, .int tt) List.mem_cons_self
  have v8 := h2.v (8, .str z) (List.mem_cons_of_mem _ h8)
  have v1 := h2.v (1, _) (List.mem_cons_of_mem _ h1)
  have v7 := h2.v (7, _) (List.mem_cons_of_mem _ h7)
  obtain ⟨a, b, c, r, e⟩ := cut3 hn t0 t1
  have em : mOp mulD (mC (.int 3)) (mVar 9) (ρ.set 9 (.pu (.int tt))) = some (.int (3 * tt)) := (ev_op rfl v9).trans (mulD_ok (.inl (by decide)))
  have ep : mPart (mOp addK (mC (.int 44)) (mOp mulD (mC (.int 3)) (mVar 9))) (ρ.set 9 (.pu (.int tt))) = some (some (44 + 3 * tt)) := by
    unfold mPart
    rw [ev_op rfl em]
    rfl
  have es : mSl slKD (mVar 1) (mPart (mOp addK (mC (.int 44)) (mOp mulD (mC (.int 3)) (mVar 9)))) mNoPart (ρ.set 9 (.pu (.int tt))) = some (.lst (.int a :: .int b :: .int c :: r)) := by
    rw [ev_sl v1 ep rfl]
    show some (D.lst (DD.cutD (ns.map D.int) (some (44 + 3 * tt)) none)) = _
    rw [e]
  obtain ⟨out, eo, oo⟩ := F_texts_ok (n0 := a) (n1 := b) (n2 := c) (ns := r) hz (pcs := pieceStrs) (by decide) pieces_ok
  have ei : mItemsL (mCall F__law_texts (mCons (mVar 8) (mCons (mSl slKD (mVar 1) (mPart (mOp addK (mC (.int 44)) (mOp mulD (mC (.int 3)) (mVar 9)))) mNoPart) (mCons (mVar 7) mNil)))) (ρ.set 9 (.pu (.int tt))) = some (out.map D.str) := by
    unfold mItemsL
    rw [(ev_call (ev_cons v8 (ev_cons es (ev_cons v7 rfl)))).trans eo]
    rfl
  rw [ev_for ei]
  have h3 : Fix l (ρ.set 9 (.pu (.int tt))) := h2.sub fun p hp => List.mem_cons_of_mem _ hp
  refine for_inv (I := Fix l) (fun d hd ρ hρ => ?_) _ h3
  obtain ⟨y, hy, rfl⟩ := List.mem_map.mp hd
  have h4 := hρ.add (j := 10) (d := .str y) (by decide) fun p hp => (hl p hp).2.1
  refine ⟨_, rfl, ?_⟩
  obtain ⟨ρ', e5, h5⟩ := kinds_ok T (f := neKD) (fun d he _ => neK_even he) (i := 10) (small_of (oo y hy) (by decide)) (oo y hy).c (l := (10, .str y) :: l) (fun p hp => by
    rcases List.mem_cons.mp hp with rfl | hp
    · exact (by decide : (10 : Nat) ≠ 11)
    · exact (hl p hp).2.2) List.mem_cons_self (mi := mItemsL (mLst (few (mCons (mC (.int 0)) (mCons (mC (.int 1)) mNil))))) h4 rfl
  exact ⟨ρ', e5, h5.sub fun p hp => List.mem_cons_of_mem _ hp⟩
end
end K85

set_option Elab.async false
set_option linter.all false
set_option maxRecDepth 100000
set_option maxHeartbeats 4000000
namespace K85
open PySem PySem.Spec PyProof.Rows L2 Evl DD
/-! M17: the law answers True -/
section
variable {C f_read_places f_read_place : Addr} {TX : Addr → Option (List D → Option Res)}
def fixed : List Str := [".", "0", "0.0", "00", "0.", ".0", "..", ". 0", "0 .", "0 0", "0.1 0.0", "0 0.0 1", "1 0.9", "999999", "1000000", "0\n1", "0\nx", "x\n0", " ", "-1", "1 ", "0. 1", "2 10", "10 2"]
theorem fixed_ok : ∀ p ∈ fixed, Ok 1000 p := fun p hp => by
  have h : ∀ p ∈ fixed, (tl p).length ≤ 1000 ∧ (tl p).all (· < 1114112) = true := by decide +kernel
  obtain ⟨h1, h2⟩ := h p hp
  exact ⟨by rw [len_tl]; exact h1, fun c hc => by simpa using List.all_eq_true.mp h2 c hc⟩
theorem rest_ok (T : TXOk C f_read_places f_read_place TX) {ns : List Int} (hn : ns.length = 60) {x y : Str} (hx : Ok 1000 x) (hy : Ok 1000 y) {ρ : DEnv} (h : Fix [(1, D.lst (ns.map D.int)), (5, .str x), (6, .str y), (7, D.lst (pieceStrs.map .str))] ρ) :
    mRest_law C f_read_places f_read_place TX ρ = some (.rt (.bl true)) := by
  unfold mRest_law
  have ei : mItemsL (mLst (few (mCons (mVar 5) (mCons (mVar 6) mNil)))) ρ = some [D.str x, D.str y] := by
    have e : few (mCons (mVar 5) (mCons (mVar 6) mNil)) ρ = some [D.str x, D.str y] := by
      unfold few
      rw [ev_cons (h.v (5, .str x) (by simp)) (ev_cons (h.v (6, .str y) (by simp)) rfl)]
      rfl
    unfold mItemsL
    rw [ev_lst e]
    rfl
  have l1 := for_inv (I := Fix [(1, D.lst (ns.map D.int)), (5, .str x), (6, .str y), (7, D.lst (pieceStrs.map .str))]) (f := gN 8) (body := mFor (mRange1 (mCons (mC (.int 5)) mNil)) (gN 9) (mFor (mItemsL (mCall F__law_texts (mCons (mVar 8) (mCons (mSl slKD (mVar 1) (mPart (mOp addK (mC (.int 44)) (mOp mulD (mC (.int 3)) (mVar 9)))) mNoPart) (mCons (mVar 7) mNil))))) (gN 10) (mFor (mItemsL (mLst (few (mCons (mC (.int 0)) (mCons (mC (.int 1)) mNil))))) (gN 11) (mIfS (mTest (mOp neKD (mCall (F__law_note C f_read_places f_read_place TX) (mCons (mVar 11) (mCons (mVar 10) mNil))) (mCall F__law_due (mCons (mVar 11) (mCons (mVar 10) mNil))))) (mRet (mC (.bl false))) mNext)))) (ds := [D.str x, D.str y]) (fun d hd ρ hρ => by
    have : ∃ z, d = .str z ∧ Ok 1000 z := by
      simp only [List.mem_cons, List.not_mem_nil, or_false] at hd
      rcases hd with rfl | rfl
      · exact ⟨x, rfl, hx⟩
      · exact ⟨y, rfl, hy⟩
    obtain ⟨z, rfl, hz⟩ := this
    have h2 := hρ.add (j := 8) (d := .str z) (by decide) (by simp)
    refine ⟨_, rfl, ?_⟩
    obtain ⟨ρ', e, h3⟩ := turns_ok T hn hz (by simp) (by simp) (by simp) (by simp) h2
    exact ⟨ρ', e, h3.sub fun p hp => List.mem_cons_of_mem _ hp⟩) ρ h
  obtain ⟨ρ1, e1, h1⟩ := l1
  rw [ev_seq ((ev_for ei).trans e1)]
  have l2 := for_inv (I := Fix []) (f := gN 8) (body := mFor (mItems (mLst (few (mCons (mC (.int 0)) (mCons (mC (.int 1)) mNil))))) (gN 11) (mIfS (mTest (mOp neD (mCall (F__law_note C f_read_places f_read_place TX) (mCons (mVar 11) (mCons (mVar 8) mNil))) (mCall F__law_due (mCons (mVar 11) (mCons (mVar 8) mNil))))) (mRet (mC (.bl false))) mNext)) (ds := fixed.map D.str) (fun d hd ρ hρ => by
    obtain ⟨z, hz, rfl⟩ := List.mem_map.mp hd
    have h2 := hρ.add (j := 8) (d := .str z) (by decide) (by simp)
    refine ⟨_, rfl, ?_⟩
    obtain ⟨ρ', e, h3⟩ := kinds_ok T (f := neD) (fun d he hd => ne_even he hd) (i := 8) (small_of (fixed_ok z hz) (by decide)) (fixed_ok z hz).c (l := [(8, .str z)]) (by simp) (by simp) (mi := mItems (mLst (few (mCons (mC (.int 0)) (mCons (mC (.int 1)) mNil))))) h2 rfl
    exact ⟨ρ', e, h3.sub (by simp)⟩) ρ1 ⟨h1.n, by simp⟩
  obtain ⟨ρ2, e2, h2⟩ := l2
  rw [ev_seq ((ev_for (rfl : _ = some (fixed.map D.str))).trans e2)]
  rfl
end
end K85

set_option Elab.async false
set_option linter.all false
set_option maxRecDepth 100000
set_option maxHeartbeats 4000000
namespace K85
open PySem PySem.Spec PyProof.Rows L2 Evl DD
/-! M18: the law answers True -/
section
variable {C f_read_places f_read_place : Addr} {TX : Addr → Option (List D → Option Res)}
theorem last_ix {l : List (List Int)} (h : l ≠ []) : ∃ r, r ∈ l ∧ ixLD (rowsD l) (.int (-1)) = some (tupI r) := by
  have hp : 0 < l.length := List.length_pos_iff.mpr h
  refine ⟨l[l.length - 1], List.getElem_mem _, ?_⟩
  have hi : ixN (l.map tupI).length (-1) = some (l.length - 1) := by
    unfold ixN
    rw [if_neg (by decide), List.length_map, if_pos (by omega)]
    exact congrArg some (by omega)
  show atI (l.map tupI) (-1) = _
  unfold atI
  rw [hi]
  show (l.map tupI)[l.length - 1]? = _
  rw [List.getElem?_map, List.getElem?_eq_getElem (by omega)]
  rfl
theorem law_true (T : TXOk C f_read_places f_read_place TX) (s : List Int) : m_law C f_read_places f_read_place TX (startD N_law [.lst (s.map D.int)]) = some (.rt (.bl true)) := by
  show m_law C f_read_places f_read_place TX [.pu (.lst (s.map D.int)), .un, .un, .un, .un, .un, .un, .un, .un, .un, .un, .un, .un] = _
  obtain ⟨ns, en, hn, ho⟩ := F_numbers_law s
  have s1 : mCall F__law_numbers (mCons (mVar 0) (mCons (mC (.int 0)) (mCons (mC (.int 60)) mNil))) [.pu (.lst (s.map D.int)), .un, .un, .un, .un, .un, .un, .un, .un, .un, .un, .un, .un] = some (.lst (ns.map D.int)) := (ev_call (ev_cons rfl (ev_cons rfl (ev_cons rfl rfl)))).trans en
  obtain ⟨a, ea, la⟩ := num_ix hn ho (i := 0) (by decide) (by decide)
  have a0 := Int.emod_nonneg a (b := 7) (by decide)
  have a1 := Int.emod_lt_of_pos a (b := 7) (by decide)
  have s3 : In (mOp addD (mC (.int 1)) (mOp modD (mOp ixD (mVar 1) (mC (.int 0))) (mC (.int 7)))) [.pu (.lst (s.map D.int)), .pu (.lst (ns.map D.int)), .ow [], .un, .un, .un, .un, .un, .un, .un, .un, .un, .un] (1 + a % 7) := in_add rfl (in_mod ((ev_op rfl rfl).trans ea) rfl (by decide))
  obtain ⟨rows, x3, x4, er, nd, ro, rl, rne⟩ := for_rows (x0 := .pu (.lst (s.map D.int))) (x5 := .un) (x6 := .un) (x7 := .un) (x8 := .un) (x9 := .un) (x10 := .un) (x11 := .un) hn ho ((List.range (1 + a % 7).toNat).map fun (i : Nat) => (i : Int)) [] .un .un (by simp; omega) (fun k hk => by
    obtain ⟨i, hi, rfl⟩ := List.mem_map.mp hk
    rw [List.mem_range] at hi
    omega) List.nodup_nil (by simp)
  have rne := rne (.inl (by
    intro e
    have := congrArg List.length e
    simp at this
    omega))
  have rl7 : rows.length ≤ 7 := by simp at rl; omega
  obtain ⟨l, es, hr, lo, lne, ll⟩ := sort_ok nd ro rne
  obtain ⟨r, hrl, el⟩ := last_ix lne
  have hr4 := lo r hrl
  have l20 : l.length ≤ 20 := by omega
  unfold m_law
  rw [ev_seq (ev_asg' (ρ' := [.pu (.lst (s.map D.int)), .pu (.lst (ns.map D.int)), .un, .un, .un, .un, .un, .un, .un, .un, .un, .un, .un]) s1 rfl)]
  rw [ev_seq (rfl : mAsgO 2 (few mNil) _ = some (.nx [.pu (.lst (s.map D.int)), .pu (.lst (ns.map D.int)), .ow [], .un, .un, .un, .un, .un, .un, .un, .un, .un, .un]))]
  have e4 : mFor (mRange1 (mCons (mOp addD (mC (.int 1)) (mOp modD (mOp ixD (mVar 1) (mC (.int 0))) (mC (.int 7)))) mNil)) (gN 3) mRowB [.pu (.lst (s.map D.int)), .pu (.lst (ns.map D.int)), .ow [], .un, .un, .un, .un, .un, .un, .un, .un, .un, .un] = some (.nx [.pu (.lst (s.map D.int)), .pu (.lst (ns.map D.int)), .ow (rows.map tupI), x3, x4, .un, .un, .un, .un, .un, .un, .un, .un]) := by
    rw [ev_for (ev_range1 (ev_cons s3 rfl) (by omega)), range_ints]
    exact er
  rw [ev_seq e4]
  show mSeq (mAsg 2 (mCall sortTD (mCons (mVar 2) mNil))) _ [.pu (.lst (s.map D.int)), .pu (.lst (ns.map D.int)), .pu (.lst (rows.map tupI)), x3, x4, .un, .un, .un, .un, .un, .un, .un, .un] = _
  rw [ev_seq (ev_asg' (ρ' := [.pu (.lst (s.map D.int)), .pu (.lst (ns.map D.int)), .pu (rowsD l), x3, x4, .un, .un, .un, .un, .un, .un, .un, .un]) ((ev_call (ev_cons rfl rfl)).trans es) rfl)]
  generalize hρ5 : [DE.pu (.lst (s.map D.int)), .pu (.lst (ns.map D.int)), .pu (rowsD l), x3, x4, .un, .un, .un, .un, .un, .un, .un, .un] = ρ5
  have hl5 : mOp ixLD (mVar 2) (mUn negD (mC (.int 1))) ρ5 = some (tupI r) := by
    rw [← hρ5]
    exact (ev_op rfl (rfl : mUn negD (mC (.int 1)) _ = some (.int (-1)))).trans el
  have eA : mCall F__law_place_word (mCons (mOp ixLD (mVar 2) (mUn negD (mC (.int 1)))) mNil) ρ5 = some (.str (wordP r)) := (ev_call (ev_cons hl5 rfl)).trans (F_lawWord_ok hr4)
  have eB : mMeth joinD (mC (.str " ")) (mCons (mLst (mLc (mItemsK (mVar 2)) (gN 4) mYes (mCall F__law_place_word (mCons (mVar 4) mNil)) [4])) mNil) ρ5 = some (.str (wordsP l)) := by
    have e1 : mLc (mItemsK (mVar 2)) (gN 4) mYes (mCall F__law_place_word (mCons (mVar 4) mNil)) [4] ρ5 = some ((l.map wordP).map D.str) := by
      rw [← wp_map]
      refine lc_ev (by rw [← hρ5]; rfl) (by rw [List.length_map]; omega) (by rw [← hρ5]; exact (by simp)) fun d hd => ?_
      obtain ⟨r, hr, rfl⟩ := List.mem_map.mp hd
      rw [wpD_tup]
      exact F_lawWord_ok (lo r hr)
    exact (ev_meth rfl (ev_cons (ev_lst e1) rfl)).trans (join_rows lo l20)
  have eP : mPar 5 6 (mCons (mCall F__law_place_word (mCons (mOp ixLD (mVar 2) (mUn negD (mC (.int 1)))) mNil)) (mCons (mMeth joinD (mC (.str " ")) (mCons (mLst (mLc (mItemsK (mVar 2)) (gN 4) mYes (mCall F__law_place_word (mCons (mVar 4) mNil)) [4])) mNil)) mNil)) ρ5 = some (.nx [.pu (.lst (s.map D.int)), .pu (.lst (ns.map D.int)), .pu (rowsD l), x3, x4, .pu (.str (wordP r)), .pu (.str (wordsP l)), .un, .un, .un, .un, .un, .un]) := by
    unfold mPar
    rw [ev_cons eA (ev_cons eB rfl), ← hρ5]
    rfl
  rw [ev_seq eP]
  generalize hρ6 : [DE.pu (.lst (s.map D.int)), .pu (.lst (ns.map D.int)), .pu (rowsD l), x3, x4, .pu (.str (wordP r)), .pu (.str (wordsP l)), .un, .un, .un, .un, .un, .un] = ρ6
  have v2 : mVar 2 ρ6 = some (rowsD l) := by rw [← hρ6]; rfl
  have v5 : mVar 5 ρ6 = some (.str (wordP r)) := by rw [← hρ6]; rfl
  have v6 : mVar 6 ρ6 = some (.str (wordsP l)) := by rw [← hρ6]; rfl
  have hl6 : mOp ixLD (mVar 2) (mUn negD (mC (.int 1))) ρ6 = some (tupI r) := (ev_op v2 (rfl : mUn negD (mC (.int 1)) _ = some (.int (-1)))).trans el
  have o5 := ok_wordP hr4
  have o6 := ok_wordsP lo l20
  have t1 : mTest (mOp neKD (mCall F_show_place (mCons (mOp ixLD (mVar 2) (mUn negD (mC (.int 1)))) mNil)) (mVar 5)) ρ6 = some false :=
    (ev_test ((ev_op ((ev_call (ev_cons hl6 rfl)).trans (F_show_ok hr4)) v5).trans (neK_even (even_str o5.c)))).trans rfl
  have t2 : mTest (mOp neKD (mCall F_show_places (mCons (mCall listKD (mCons (mVar 2) mNil)) mNil)) (mVar 6)) ρ6 = some false :=
    (ev_test ((ev_op ((ev_call (ev_cons ((ev_call (ev_cons v2 rfl)).trans (rfl : listKD [rowsD l] = some (rowsD l))) rfl)).trans (F_shows_ok lo l20)) v6).trans (neK_even (even_str o6.c)))).trans rfl
  have t3 : mTest (mOp neKD (mCall F_show_places (mCons (mLst (few mNil)) mNil)) (mC (.str ""))) ρ6 = some false := by
    have e : mCall F_show_places (mCons (mLst (few mNil)) mNil) ρ6 = some (.str "") := (ev_call (ev_cons (rfl : _ = some (rowsD [])) rfl)).trans (F_shows_ok (rows := []) (by simp) (by simp))
    exact (ev_test ((ev_op e rfl).trans (neK_even (even_str ok_e.c)))).trans rfl
  rw [ev_seq ((ev_ifS_f ((ev_or_f t1).trans ((ev_or_f t2).trans t3))).trans rfl)]
  have n0 : mCall (F__law_note C f_read_places f_read_place TX) (mCons (mC (.int 0)) (mCons (mVar 5) mNil)) ρ6 = some (tupI r) := by
    rw [ev_call (ev_cons rfl (ev_cons v5 rfl)), ← out_first hr4]
    exact T.n (wordP r) false (small_of o5 (by decide))
  have n1 : mCall (F__law_note C f_read_places f_read_place TX) (mCons (mC (.int 1)) (mCons (mVar 6) mNil)) ρ6 = some (rowsD l) := by
    rw [ev_call (ev_cons rfl (ev_cons v6 rfl)), ← out_second lo lne hr]
    exact T.n (wordsP l) true (small_of o6 (by decide))
  have u1 : mTest (mOp neKD (mCall (F__law_note C f_read_places f_read_place TX) (mCons (mC (.int 0)) (mCons (mVar 5) mNil))) (mOp ixLD (mVar 2) (mUn negD (mC (.int 1))))) ρ6 = some false := (ev_test ((ev_op n0 hl6).trans (neK_even (even_tup r)))).trans rfl
  have u2 : mTest (mOp neKD (mCall (F__law_note C f_read_places f_read_place TX) (mCons (mC (.int 1)) (mCons (mVar 6) mNil))) (mVar 2)) ρ6 = some false := (ev_test ((ev_op n1 v2).trans (neK_even (even_rows l)))).trans rfl
  have u3 : mNot (mTest (mCall isTupD (mCons (mCall (F__law_note C f_read_places f_read_place TX) (mCons (mC (.int 0)) (mCons (mVar 5) mNil))) (mCons (mC (.ty "tuple")) mNil)))) ρ6 = some false :=
    ev_not (b := true) ((ev_test (d := .bl true) ((ev_call (ev_cons n0 (ev_cons rfl rfl))).trans rfl)).trans rfl)
  rw [ev_seq ((ev_ifS_f ((ev_or_f u1).trans ((ev_or_f u2).trans u3))).trans rfl)]
  rw [ev_seq (ev_asg (d := .lst (pieceStrs.map .str)) rfl)]
  refine rest_ok T hn (x := wordP r) (y := wordsP l) (o5.mono (by decide)) o6 ⟨by rw [← hρ6]; rfl, fun p hp => ?_⟩
  rw [← hρ6]
  simp only [List.mem_cons, List.not_mem_nil, or_false] at hp
  rcases hp with rfl | rfl | rfl | rfl <;> rfl
end
end K85

set_option Elab.async false
set_option linter.all false
set_option maxRecDepth 100000
set_option maxHeartbeats 8000000
namespace K85
open PySem PySem.Spec PyProof.Rows L2 Evl DD
/-! E1: the promises of all defs, and the law's -/
section
variable {P : Program} {w : World} {K : PySem.W.Frag} {mg : Str → Option Value} {base : Heap}
def initS (i : Nat) : Stmt := match topS i with
  | .ClassDef (body := b) .. => b.getD 0 (.Pass ⟨0, 0, 0, 0⟩)
  | _ => .Pass ⟨0, 0, 0, 0⟩
abbrev s_init : Stmt := initS 3
theorem sc_init : FnScope ["self", "line"] ["self", "line"] (defScope s_init) := ⟨rfl, rfl, rfl, by decide +kernel, rfl, by decide +kernel, by decide +kernel⟩
theorem init_ok {fI C : Addr} {fd : FuncData} (F : Fun K "__init__" "BadLine.__init__" s_init fI fd) (hC : OexC K C) (hno : PySem.W.findIn K (.ref C) "line" = some none) : FnOk P w K mg base CX0 2 fI fd ["self", "line"] (spInit C "line") := by
  refine F.ok sc_init (fun vs H Q E h => ?_) (fun cdv A outer s H vs Q E hr h => ?_)
  · obtain ⟨a, y, rfl, _⟩ := h
    rfl
  · obtain ⟨a, y, rfl, ha, q⟩ := h
    refine ⟨_, pss_one (ps_ost (pv 0) (pv 1)), ?_⟩
    exact ⟨y, rfl, .ref a, rfl, a, C, rfl, hC, hno, .inl ⟨ha, fun dx n ne => q dx n ne⟩⟩
structure Fs (K : PySem.W.Frag) (mg : Str → Option Value) (x : Str) (st : Stmt) (ps : List Str) (f : Addr) : Prop where
  ex : ∃ fd, Fun K x x st f fd ∧ Binds K fd ps []
  g : mg x = some (.ref f)
theorem fs_ne {x y : Str} {st st' : Stmt} {ps ps' : List Str} {f : Addr} (h : x ≠ y) (A : Fs K mg x st ps f) (B : Fs K mg y st' ps' f) : False := by
  obtain ⟨⟨fd, F, _⟩, _⟩ := A
  obtain ⟨⟨fd', F', _⟩, _⟩ := B
  obtain ⟨oc, od, kV, doc, pm, an, cdv, ct, osl, rfl, lk, _⟩ := F.ex
  obtain ⟨oc', od', kV', doc', pm', an', cdv', ct', osl', rfl, lk', _⟩ := F'.ex
  have e := congrArg (fun o : Obj => match o.data with
    | .func fd => fd.name
    | _ => x) (Option.some.inj (lk.symm.trans lk'))
  exact h e
def Tb (f0 f1 : Addr) : Addr → Option (List D → Option D) := fun a => if a = f0 then some F_place_of else if a = f1 then some F_places_line else none
def TXt (r0 r1 : Addr) (R0 R1 : List D → Option Res) : Addr → Option (List D → Option Res) := fun a => if a = r0 then some R0 else if a = r1 then some R1 else none
def spLaw (K : PySem.W.Frag) : Sp := fun vs H Q _ => ∃ (a : Addr) (ns : List Int), vs = [.ref a] ∧ SqL K H a (ns.map V.int) ∧ ns.length ≤ 63 ∧ ∀ H', Q (.bl true) H'
theorem rps_ints {G : Hp} : ∀ ns : List Int, Rps K G (ns.map V.int) (ns.map D.int)
  | [] => .nil
  | n :: ns => .cons (.val _) (rps_ints ns)
structure Err (K : PySem.W.Frag) (mg : Str → Option Value) (C BT fI : Addr) : Prop where
  g : mg "BadLine" = some (.ref C)
  gT : mg "BadText" = some (.ref BT)
  oex : OexC K C
  no : PySem.W.findIn K (.ref C) "line" = some none
  i1 : PySem.W.findIn K (.ref C) "__init__" = some (some (.ref fI))
  i2 : PySem.W.typeIn K (.ref fI) = some (.type "function")
  ini : ∃ fd, Fun K "__init__" "BadLine.__init__" s_init fI fd ∧ Binds K fd ["self", "line"] []
  c : ErrC K C
  xf : XfC K C
  exm : PySem.W.exmOne K (.ref C) (.ref C) = some true
  kit : PySem.W.kitOne K (.ref C) (.ref BT) = some false
theorem law_ok (T : Tx K mg) (nb : PySem.W.nsIn K cStatics sharingNotToldKey = some none) {C BT fI : Addr} (E : Err K mg C BT fI)
    {f_lines_of : Addr} (A_lines_of : Fs K mg "lines_of" s_lines_of ["text"] f_lines_of)
    {f_words_of : Addr} (A_words_of : Fs K mg "words_of" s_words_of ["line"] f_words_of)
    {f_number_of : Addr} (A_number_of : Fs K mg "number_of" s_number_of ["word"] f_number_of)
    {f_numbers_of : Addr} (A_numbers_of : Fs K mg "numbers_of" s_numbers_of ["words"] f_numbers_of)
    {f_is_rising : Addr} (A_is_rising : Fs K mg "is_rising" s_is_rising ["listed"] f_is_rising)
    {f_place_word : Addr} (A_place_word : Fs K mg "place_word" s_place_word ["place"] f_place_word)
    {f_place_of : Addr} (A_place_of : Fs K mg "place_of" s_place_of ["word"] f_place_of)
    {f_places_of : Addr} (A_places_of : Fs K mg "places_of" s_places_of ["words"] f_places_of)
    {f_read_lines : Addr} (A_read_lines : Fs K mg "read_lines" s_read_lines ["text", "form"] f_read_lines)
    {f_read_one : Addr} (A_read_one : Fs K mg "read_one" s_read_one ["text", "form"] f_read_one)
    {f_show_place : Addr} (A_show_place : Fs K mg "show_place" s_show_place ["place"] f_show_place)
    {f_read_place : Addr} (A_read_place : Fs K mg "read_place" s_read_place ["text"] f_read_place)
    {f_show_places : Addr} (A_show_places : Fs K mg "show_places" s_show_places ["places"] f_show_places)
    {f_places_line : Addr} (A_places_line : Fs K mg "places_line" s_places_line ["line"] f_places_line)
    {f_read_places : Addr} (A_read_places : Fs K mg "read_places" s_read_places ["text"] f_read_places)
    {f__law_numbers : Addr} (A__law_numbers : Fs K mg "_law_numbers" s__law_numbers ["script", "at", "many"] f__law_numbers)
    {f__law_texts : Addr} (A__law_texts : Fs K mg "_law_texts" s__law_texts ["text", "numbers", "pieces"] f__law_texts)
    {f__law_number : Addr} (A__law_number : Fs K mg "_law_number" s__law_number ["word"] f__law_number)
    {f__law_place_told : Addr} (A__law_place_told : Fs K mg "_law_place_told" s__law_place_told ["word"] f__law_place_told)
    {f__law_place_word : Addr} (A__law_place_word : Fs K mg "_law_place_word" s__law_place_word ["place"] f__law_place_word)
    {f__law_rising : Addr} (A__law_rising : Fs K mg "_law_rising" s__law_rising ["keys"] f__law_rising)
    {f__law_note : Addr} (A__law_note : Fs K mg "_law_note" s__law_note ["kind", "text"] f__law_note)
    {f__law_due : Addr} (A__law_due : Fs K mg "_law_due" s__law_due ["kind", "text"] f__law_due)
    {f_law : Addr} (A_law : Fs K mg "law" s_law ["script"] f_law)
    {fd : FuncData} (FL : Fun K "law" "law" s_law f_law fd) : FnOk P w K mg base CX0 21 f_law fd ["script"] (spLaw K) := by
  have hne : f_place_of ≠ f_places_line := fun e => by
    subst e
    exact fs_ne (by decide) A_place_of A_places_line
  have hne2 : f_read_place ≠ f_read_places := fun e => by
    subst e
    exact fs_ne (by decide) A_read_place A_read_places
  obtain ⟨⟨fd_lines_of, F_lines_of_, B_lines_of⟩, g_lines_of⟩ := A_lines_of
  obtain ⟨⟨fd_words_of, F_words_of_, B_words_of⟩, g_words_of⟩ := A_words_of
  obtain ⟨⟨fd_number_of, F_number_of_, B_number_of⟩, g_number_of⟩ := A_number_of
  obtain ⟨⟨fd_numbers_of, F_numbers_of_, B_numbers_of⟩, g_numbers_of⟩ := A_numbers_of
  obtain ⟨⟨fd_is_rising, F_is_rising_, B_is_rising⟩, g_is_rising⟩ := A_is_rising
  obtain ⟨⟨fd_place_word, F_place_word_, B_place_word⟩, g_place_word⟩ := A_place_word
  obtain ⟨⟨fd_place_of, F_place_of_, B_place_of⟩, g_place_of⟩ := A_place_of
  obtain ⟨⟨fd_places_of, F_places_of_, B_places_of⟩, g_places_of⟩ := A_places_of
  obtain ⟨⟨fd_read_lines, F_read_lines_, B_read_lines⟩, g_read_lines⟩ := A_read_lines
  obtain ⟨⟨fd_read_one, F_read_one_, B_read_one⟩, g_read_one⟩ := A_read_one
  obtain ⟨⟨fd_show_place, F_show_place_, B_show_place⟩, g_show_place⟩ := A_show_place
  obtain ⟨⟨fd_read_place, F_read_place_, B_read_place⟩, g_read_place⟩ := A_read_place
  obtain ⟨⟨fd_show_places, F_show_places_, B_show_places⟩, g_show_places⟩ := A_show_places
  obtain ⟨⟨fd_places_line, F_places_line_, B_places_line⟩, g_places_line⟩ := A_places_line
  obtain ⟨⟨fd_read_places, F_read_places_, B_read_places⟩, g_read_places⟩ := A_read_places
  obtain ⟨⟨fd__law_numbers, F__law_numbers_, B__law_numbers⟩, g__law_numbers⟩ := A__law_numbers
  obtain ⟨⟨fd__law_texts, F__law_texts_, B__law_texts⟩, g__law_texts⟩ := A__law_texts
  obtain ⟨⟨fd__law_number, F__law_number_, B__law_number⟩, g__law_number⟩ := A__law_number
  obtain ⟨⟨fd__law_place_told, F__law_place_told_, B__law_place_told⟩, g__law_place_told⟩ := A__law_place_told
  obtain ⟨⟨fd__law_place_word, F__law_place_word_, B__law_place_word⟩, g__law_place_word⟩ := A__law_place_word
  obtain ⟨⟨fd__law_rising, F__law_rising_, B__law_rising⟩, g__law_rising⟩ := A__law_rising
  obtain ⟨⟨fd__law_note, F__law_note_, B__law_note⟩, g__law_note⟩ := A__law_note
  obtain ⟨⟨fd__law_due, F__law_due_, B__law_due⟩, g__law_due⟩ := A__law_due
  have C_lines_of := fn_lines_of (P := P) (w := w) (base := base) T F_lines_of_ B_lines_of g_lines_of
  have C_words_of := fn_words_of (P := P) (w := w) (base := base) T F_words_of_ B_words_of g_words_of
  have C_number_of := fn_number_of (P := P) (w := w) (base := base) T F_number_of_ B_number_of g_number_of
  have C_numbers_of := fn_numbers_of (P := P) (w := w) (base := base) T F_numbers_of_ B_numbers_of g_numbers_of C_number_of
  have C_is_rising := fn_is_rising (P := P) (w := w) (base := base) T F_is_rising_ B_is_rising g_is_rising
  have C_place_word := fn_place_word (P := P) (w := w) (base := base) T F_place_word_ B_place_word g_place_word
  have C_place_of := fn_place_of (P := P) (w := w) (base := base) T F_place_of_ B_place_of g_place_of C_numbers_of
  have C_places_of := fn_places_of (P := P) (w := w) (base := base) T F_places_of_ B_places_of g_places_of C_place_of C_is_rising
  have C_show_place := fn_show_place (P := P) (w := w) (base := base) T F_show_place_ B_show_place g_show_place C_place_word
  have C_show_places := fn_show_places (P := P) (w := w) (base := base) T F_show_places_ B_show_places g_show_places C_place_word
  have C_places_line := fn_places_line (P := P) (w := w) (base := base) T F_places_line_ B_places_line g_places_line C_places_of C_words_of
  obtain ⟨fdI, FI, BI⟩ := E.ini
  have ET : ErrT P w K mg base "BadLine" C "line" := ⟨E.g, E.oex, fI, fdI, _, E.i1, E.i2, BI, init_ok FI E.oex E.no⟩
  have EF : ErrF K mg "BadLine" C "line" := ⟨E.g, E.c, E.xf, E.no, E.exm⟩
  have HT : ∀ f F, Tb f_place_of f_places_line f = some F → HeldD P w K mg base 9 1 f F := fun f F h => by
    unfold Tb at h
    split at h
    · rename_i e
      cases h
      rw [e]
      exact C_place_of.held.mono (by decide)
    · split at h
      · rename_i e
        cases h
        rw [e]
        exact C_places_line.held.mono (by decide)
      · cases h
  have t0 : Tb f_place_of f_places_line f_place_of = some F_place_of := if_pos rfl
  have t1 : Tb f_place_of f_places_line f_places_line = some F_places_line := (if_neg (Ne.symm hne)).trans (if_pos rfl)
  have C_read_lines := fn_read_lines (P := P) (w := w) (base := base) T F_read_lines_ B_read_lines g_read_lines HT C_lines_of ET
  have C_read_one := fn_read_one (P := P) (w := w) (base := base) T F_read_one_ B_read_one g_read_one C_read_lines ET
  have C_read_place := fn_read_place (P := P) (w := w) (base := base) T F_read_place_ B_read_place g_read_place g_place_of C_read_one
  have C_read_places := fn_read_places (P := P) (w := w) (base := base) T F_read_places_ B_read_places g_read_places g_places_line C_read_one
  have HX : ∀ f F, TXt f_read_place f_read_places (F_read_place f_place_of (Tb f_place_of f_places_line) C) (F_read_places f_places_line (Tb f_place_of f_places_line) C) f = some F → HeldX P w K mg base 19 1 f F := fun f F h => by
    unfold TXt at h
    split at h
    · rename_i e
      cases h
      rw [e]
      exact C_read_place.held.mono (by decide)
    · split at h
      · rename_i e
        cases h
        rw [e]
        exact C_read_places.held.mono (by decide)
      · cases h
  have u0 : TXt f_read_place f_read_places (F_read_place f_place_of (Tb f_place_of f_places_line) C) (F_read_places f_places_line (Tb f_place_of f_places_line) C) f_read_place = some _ := if_pos rfl
  have u1 : TXt f_read_place f_read_places (F_read_place f_place_of (Tb f_place_of f_places_line) C) (F_read_places f_places_line (Tb f_place_of f_places_line) C) f_read_places = some _ := (if_neg (Ne.symm hne2)).trans (if_pos rfl)
  have TO := txOk t0 t1 u0 u1
  have C__law_numbers := fn__law_numbers (P := P) (w := w) (base := base) T F__law_numbers_ B__law_numbers g__law_numbers
  have C__law_number := fn__law_number (P := P) (w := w) (base := base) T F__law_number_ B__law_number g__law_number
  have C__law_place_told := fn__law_place_told (P := P) (w := w) (base := base) T F__law_place_told_ B__law_place_told g__law_place_told C__law_number
  have C__law_rising := fn__law_rising (P := P) (w := w) (base := base) T F__law_rising_ B__law_rising g__law_rising
  have C__law_due := fn__law_due (P := P) (w := w) (base := base) T F__law_due_ B__law_due g__law_due C__law_place_told C__law_rising
  have C__law_place_word := fn__law_place_word (P := P) (w := w) (base := base) T F__law_place_word_ B__law_place_word g__law_place_word
  have C__law_note := fn__law_note (P := P) (w := w) (base := base) T F__law_note_ B__law_note g__law_note g_read_places g_read_place HX EF E.gT E.kit
  have C__law_texts := fun (B T0 : Nat) (h1 : 1 ≤ B) (h2 : B ≤ T0) => fn__law_texts (P := P) (w := w) (base := base) T nb F__law_texts_ B__law_texts g__law_texts h1 h2
  refine fnL_of (m := mNext) (n0 := 0) (k := 20) FL sc_law (by decide) (fun vs H Q E h => ?_) (fun cdv A outer s H vs Q E hr h => ?_)
  · obtain ⟨a, ns, rfl, _⟩ := h
    rfl
  · obtain ⟨a, ns, rfl, hS, hl, q⟩ := h
    obtain ⟨t, J⟩ := walk_law (P := P) (w := w) (base := base) T C__law_numbers C_show_place C_show_places C__law_due C__law_place_word C__law_note C__law_texts cdv A outer s H E hr
    refine ⟨t, J.p, ?_⟩
    have sp : spD K 1 (runF N_law 1 (m_law C f_read_places f_read_place _)) [.ref a] H Q E := ⟨H, [.lst (ns.map D.int)], .bl true, rfl, Ex.refl H, .cons (.lst hS (rps_ints ns)) .nil, ev_runF rfl (law_true TO ns), fun v G' H' _ rv => by
      cases rp_val rv
      exact q H'⟩
    exact body_of J.m sp
end
end K85

set_option Elab.async false
set_option linter.all false
set_option maxRecDepth 100000
set_option maxHeartbeats 8000000
namespace K85
open PySem PySem.Spec PyProof.Rows L2 Evl DD
/-- an error of the class at S is what «except S» names -/
theorem exm_self {K : PySem.W.Frag} {S : Addr} (h1 : PySem.W.subIn K (.ref S) (.type "BaseException") = some true) (h2 : (PySem.W.clsIn K S).isSome = true) (h3 : PySem.W.typeIn K (.ref S) = some (.type "type")) (h4 : PySem.W.subIn K (.ref S) (.ref S) = some true) :
    PySem.W.exmOne K (.ref S) (.ref S) = some true := by
  have e1 : (PySem.W.subIn K (.ref S) (.type "BaseException") == some true) = true := by rw [h1] <;> rfl
  have e2 : ((PySem.W.clsIn K S).isSome && PySem.W.typeIn K (.ref S) == some (.type "type")) = true := by
    rw [h2, h3] <;> rfl
  show (if (PySem.W.subIn K (.ref S) (.type "BaseException") == some true) = true then (if ((PySem.W.clsIn K S).isSome && PySem.W.typeIn K (.ref S) == some (.type "type")) = true then PySem.W.subIn K (.ref S) (.ref S) else none) else none) = some true
  rw [if_pos e1, if_pos e2]
  exact h4
theorem kit_no {K : PySem.W.Frag} {C BT : Addr} (h0 : (C == BT) = false) (h1 : (PySem.W.clsIn K BT).isSome = true) (h2 : PySem.W.typeIn K (.ref BT) = some (.type "type")) (h3 : PySem.W.subIn K (.ref C) (.ref BT) = some false) :
    PySem.W.kitOne K (.ref C) (.ref BT) = some false := by
  have e0 : ¬ ((Value.ref C == Value.ref BT) = true) := fun e => by
    have e1 : Value.ref C = Value.ref BT := eq_of_beq e
    cases e1
    simp at h0
  have e2 : ((PySem.W.clsIn K BT).isSome && PySem.W.typeIn K (.ref BT) == some (.type "type")) = true := by
    rw [h1, h2] <;> rfl
  unfold PySem.W.kitOne
  rw [if_neg e0]
  show (if ((PySem.W.clsIn K BT).isSome && PySem.W.typeIn K (.ref BT) == some (.type "type")) = true then PySem.W.subIn K (.ref C) (.ref BT) else none) = some false
  rw [if_pos e2]
  exact h3
theorem all_mk {l : PySem.W.OpenLaw} {w : World} {K : PySem.W.Frag} {h : Heap} {mg : Str → Option Value} {fa C BT : Addr} (X : K.In h) (G : h.Ns mainGlobals mg) (hfa : mg "law" = some (.ref fa))
    {f0 : Addr} {od0 an0 : Option Addr} {sl0 : Array (Option Value)} {oc0 kV0 dc0 pm0 cd0 ct0 : Value}
    {f1 : Addr} {od1 an1 : Option Addr} {sl1 : Array (Option Value)} {oc1 kV1 dc1 pm1 cd1 ct1 : Value}
    {f2 : Addr} {od2 an2 : Option Addr} {sl2 : Array (Option Value)} {oc2 kV2 dc2 pm2 cd2 ct2 : Value}
    {f3 : Addr} {od3 an3 : Option Addr} {sl3 : Array (Option Value)} {oc3 kV3 dc3 pm3 cd3 ct3 : Value}
    {f4 : Addr} {od4 an4 : Option Addr} {sl4 : Array (Option Value)} {oc4 kV4 dc4 pm4 cd4 ct4 : Value}
    {f5 : Addr} {od5 an5 : Option Addr} {sl5 : Array (Option Value)} {oc5 kV5 dc5 pm5 cd5 ct5 : Value}
    {f6 : Addr} {od6 an6 : Option Addr} {sl6 : Array (Option Value)} {oc6 kV6 dc6 pm6 cd6 ct6 : Value}
    {f7 : Addr} {od7 an7 : Option Addr} {sl7 : Array (Option Value)} {oc7 kV7 dc7 pm7 cd7 ct7 : Value}
    {f8 : Addr} {od8 an8 : Option Addr} {sl8 : Array (Option Value)} {oc8 kV8 dc8 pm8 cd8 ct8 : Value}
    {f9 : Addr} {od9 an9 : Option Addr} {sl9 : Array (Option Value)} {oc9 kV9 dc9 pm9 cd9 ct9 : Value}
    {f10 : Addr} {od10 an10 : Option Addr} {sl10 : Array (Option Value)} {oc10 kV10 dc10 pm10 cd10 ct10 : Value}
    {f11 : Addr} {od11 an11 : Option Addr} {sl11 : Array (Option Value)} {oc11 kV11 dc11 pm11 cd11 ct11 : Value}
    {f12 : Addr} {od12 an12 : Option Addr} {sl12 : Array (Option Value)} {oc12 kV12 dc12 pm12 cd12 ct12 : Value}
    {f13 : Addr} {od13 an13 : Option Addr} {sl13 : Array (Option Value)} {oc13 kV13 dc13 pm13 cd13 ct13 : Value}
    {f14 : Addr} {od14 an14 : Option Addr} {sl14 : Array (Option Value)} {oc14 kV14 dc14 pm14 cd14 ct14 : Value}
    {f15 : Addr} {od15 an15 : Option Addr} {sl15 : Array (Option Value)} {oc15 kV15 dc15 pm15 cd15 ct15 : Value}
    {f16 : Addr} {od16 an16 : Option Addr} {sl16 : Array (Option Value)} {oc16 kV16 dc16 pm16 cd16 ct16 : Value}
    {f17 : Addr} {od17 an17 : Option Addr} {sl17 : Array (Option Value)} {oc17 kV17 dc17 pm17 cd17 ct17 : Value}
    {f18 : Addr} {od18 an18 : Option Addr} {sl18 : Array (Option Value)} {oc18 kV18 dc18 pm18 cd18 ct18 : Value}
    {f19 : Addr} {od19 an19 : Option Addr} {sl19 : Array (Option Value)} {oc19 kV19 dc19 pm19 cd19 ct19 : Value}
    {f20 : Addr} {od20 an20 : Option Addr} {sl20 : Array (Option Value)} {oc20 kV20 dc20 pm20 cd20 ct20 : Value}
    {f21 : Addr} {od21 an21 : Option Addr} {sl21 : Array (Option Value)} {oc21 kV21 dc21 pm21 cd21 ct21 : Value}
    {f22 : Addr} {od22 an22 : Option Addr} {sl22 : Array (Option Value)} {oc22 kV22 dc22 pm22 cd22 ct22 : Value}
    {f23 : Addr} {od23 an23 : Option Addr} {sl23 : Array (Option Value)} {oc23 kV23 dc23 pm23 cd23 ct23 : Value}
    {f24 : Addr} {od24 an24 : Option Addr} {sl24 : Array (Option Value)} {oc24 kV24 dc24 pm24 cd24 ct24 : Value}
    (a0 : PySem.W.nsIn K mainGlobals "lines_of" = some (some (.ref f0))) (l0 : K.lookup f0 = some ⟨oc0, od0, .func (PySem.W.fnOf "lines_of" "lines_of" (defArgs s_lines_of) (defBody s_lines_of) (defScope s_lines_of) .none kV0 dc0 pm0 an0 cd0 ct0), sl0⟩) (c0 : PySem.W.codeIn K cd0 "lines_of" = true) (k0 : PySem.W.keepIn K (.ref f0) = true)
    (a1 : PySem.W.nsIn K mainGlobals "words_of" = some (some (.ref f1))) (l1 : K.lookup f1 = some ⟨oc1, od1, .func (PySem.W.fnOf "words_of" "words_of" (defArgs s_words_of) (defBody s_words_of) (defScope s_words_of) .none kV1 dc1 pm1 an1 cd1 ct1), sl1⟩) (c1 : PySem.W.codeIn K cd1 "words_of" = true) (k1 : PySem.W.keepIn K (.ref f1) = true)
    (a2 : PySem.W.nsIn K mainGlobals "number_of" = some (some (.ref f2))) (l2 : K.lookup f2 = some ⟨oc2, od2, .func (PySem.W.fnOf "number_of" "number_of" (defArgs s_number_of) (defBody s_number_of) (defScope s_number_of) .none kV2 dc2 pm2 an2 cd2 ct2), sl2⟩) (c2 : PySem.W.codeIn K cd2 "number_of" = true) (k2 : PySem.W.keepIn K (.ref f2) = true)
    (a3 : PySem.W.nsIn K mainGlobals "numbers_of" = some (some (.ref f3))) (l3 : K.lookup f3 = some ⟨oc3, od3, .func (PySem.W.fnOf "numbers_of" "numbers_of" (defArgs s_numbers_of) (defBody s_numbers_of) (defScope s_numbers_of) .none kV3 dc3 pm3 an3 cd3 ct3), sl3⟩) (c3 : PySem.W.codeIn K cd3 "numbers_of" = true) (k3 : PySem.W.keepIn K (.ref f3) = true)
    (a4 : PySem.W.nsIn K mainGlobals "is_rising" = some (some (.ref f4))) (l4 : K.lookup f4 = some ⟨oc4, od4, .func (PySem.W.fnOf "is_rising" "is_rising" (defArgs s_is_rising) (defBody s_is_rising) (defScope s_is_rising) .none kV4 dc4 pm4 an4 cd4 ct4), sl4⟩) (c4 : PySem.W.codeIn K cd4 "is_rising" = true) (k4 : PySem.W.keepIn K (.ref f4) = true)
    (a5 : PySem.W.nsIn K mainGlobals "place_word" = some (some (.ref f5))) (l5 : K.lookup f5 = some ⟨oc5, od5, .func (PySem.W.fnOf "place_word" "place_word" (defArgs s_place_word) (defBody s_place_word) (defScope s_place_word) .none kV5 dc5 pm5 an5 cd5 ct5), sl5⟩) (c5 : PySem.W.codeIn K cd5 "place_word" = true) (k5 : PySem.W.keepIn K (.ref f5) = true)
    (a6 : PySem.W.nsIn K mainGlobals "place_of" = some (some (.ref f6))) (l6 : K.lookup f6 = some ⟨oc6, od6, .func (PySem.W.fnOf "place_of" "place_of" (defArgs s_place_of) (defBody s_place_of) (defScope s_place_of) .none kV6 dc6 pm6 an6 cd6 ct6), sl6⟩) (c6 : PySem.W.codeIn K cd6 "place_of" = true) (k6 : PySem.W.keepIn K (.ref f6) = true)
    (a7 : PySem.W.nsIn K mainGlobals "places_of" = some (some (.ref f7))) (l7 : K.lookup f7 = some ⟨oc7, od7, .func (PySem.W.fnOf "places_of" "places_of" (defArgs s_places_of) (defBody s_places_of) (defScope s_places_of) .none kV7 dc7 pm7 an7 cd7 ct7), sl7⟩) (c7 : PySem.W.codeIn K cd7 "places_of" = true) (k7 : PySem.W.keepIn K (.ref f7) = true)
    (a8 : PySem.W.nsIn K mainGlobals "read_lines" = some (some (.ref f8))) (l8 : K.lookup f8 = some ⟨oc8, od8, .func (PySem.W.fnOf "read_lines" "read_lines" (defArgs s_read_lines) (defBody s_read_lines) (defScope s_read_lines) .none kV8 dc8 pm8 an8 cd8 ct8), sl8⟩) (c8 : PySem.W.codeIn K cd8 "read_lines" = true) (k8 : PySem.W.keepIn K (.ref f8) = true)
    (a9 : PySem.W.nsIn K mainGlobals "read_one" = some (some (.ref f9))) (l9 : K.lookup f9 = some ⟨oc9, od9, .func (PySem.W.fnOf "read_one" "read_one" (defArgs s_read_one) (defBody s_read_one) (defScope s_read_one) .none kV9 dc9 pm9 an9 cd9 ct9), sl9⟩) (c9 : PySem.W.codeIn K cd9 "read_one" = true) (k9 : PySem.W.keepIn K (.ref f9) = true)
    (a10 : PySem.W.nsIn K mainGlobals "show_place" = some (some (.ref f10))) (l10 : K.lookup f10 = some ⟨oc10, od10, .func (PySem.W.fnOf "show_place" "show_place" (defArgs s_show_place) (defBody s_show_place) (defScope s_show_place) .none kV10 dc10 pm10 an10 cd10 ct10), sl10⟩) (c10 : PySem.W.codeIn K cd10 "show_place" = true) (k10 : PySem.W.keepIn K (.ref f10) = true)
    (a11 : PySem.W.nsIn K mainGlobals "read_place" = some (some (.ref f11))) (l11 : K.lookup f11 = some ⟨oc11, od11, .func (PySem.W.fnOf "read_place" "read_place" (defArgs s_read_place) (defBody s_read_place) (defScope s_read_place) .none kV11 dc11 pm11 an11 cd11 ct11), sl11⟩) (c11 : PySem.W.codeIn K cd11 "read_place" = true) (k11 : PySem.W.keepIn K (.ref f11) = true)
    (a12 : PySem.W.nsIn K mainGlobals "show_places" = some (some (.ref f12))) (l12 : K.lookup f12 = some ⟨oc12, od12, .func (PySem.W.fnOf "show_places" "show_places" (defArgs s_show_places) (defBody s_show_places) (defScope s_show_places) .none kV12 dc12 pm12 an12 cd12 ct12), sl12⟩) (c12 : PySem.W.codeIn K cd12 "show_places" = true) (k12 : PySem.W.keepIn K (.ref f12) = true)
    (a13 : PySem.W.nsIn K mainGlobals "places_line" = some (some (.ref f13))) (l13 : K.lookup f13 = some ⟨oc13, od13, .func (PySem.W.fnOf "places_line" "places_line" (defArgs s_places_line) (defBody s_places_line) (defScope s_places_line) .none kV13 dc13 pm13 an13 cd13 ct13), sl13⟩) (c13 : PySem.W.codeIn K cd13 "places_line" = true) (k13 : PySem.W.keepIn K (.ref f13) = true)
    (a14 : PySem.W.nsIn K mainGlobals "read_places" = some (some (.ref f14))) (l14 : K.lookup f14 = some ⟨oc14, od14, .func (PySem.W.fnOf "read_places" "read_places" (defArgs s_read_places) (defBody s_read_places) (defScope s_read_places) .none kV14 dc14 pm14 an14 cd14 ct14), sl14⟩) (c14 : PySem.W.codeIn K cd14 "read_places" = true) (k14 : PySem.W.keepIn K (.ref f14) = true)
    (a15 : PySem.W.nsIn K mainGlobals "_law_numbers" = some (some (.ref f15))) (l15 : K.lookup f15 = some ⟨oc15, od15, .func (PySem.W.fnOf "_law_numbers" "_law_numbers" (defArgs s__law_numbers) (defBody s__law_numbers) (defScope s__law_numbers) .none kV15 dc15 pm15 an15 cd15 ct15), sl15⟩) (c15 : PySem.W.codeIn K cd15 "_law_numbers" = true) (k15 : PySem.W.keepIn K (.ref f15) = true)
    (a16 : PySem.W.nsIn K mainGlobals "_law_texts" = some (some (.ref f16))) (l16 : K.lookup f16 = some ⟨oc16, od16, .func (PySem.W.fnOf "_law_texts" "_law_texts" (defArgs s__law_texts) (defBody s__law_texts) (defScope s__law_texts) .none kV16 dc16 pm16 an16 cd16 ct16), sl16⟩) (c16 : PySem.W.codeIn K cd16 "_law_texts" = true) (k16 : PySem.W.keepIn K (.ref f16) = true)
    (a17 : PySem.W.nsIn K mainGlobals "_law_number" = some (some (.ref f17))) (l17 : K.lookup f17 = some ⟨oc17, od17, .func (PySem.W.fnOf "_law_number" "_law_number" (defArgs s__law_number) (defBody s__law_number) (defScope s__law_number) .none kV17 dc17 pm17 an17 cd17 ct17), sl17⟩) (c17 : PySem.W.codeIn K cd17 "_law_number" = true) (k17 : PySem.W.keepIn K (.ref f17) = true)
    (a18 : PySem.W.nsIn K mainGlobals "_law_place_told" = some (some (.ref f18))) (l18 : K.lookup f18 = some ⟨oc18, od18, .func (PySem.W.fnOf "_law_place_told" "_law_place_told" (defArgs s__law_place_told) (defBody s__law_place_told) (defScope s__law_place_told) .none kV18 dc18 pm18 an18 cd18 ct18), sl18⟩) (c18 : PySem.W.codeIn K cd18 "_law_place_told" = true) (k18 : PySem.W.keepIn K (.ref f18) = true)
    (a19 : PySem.W.nsIn K mainGlobals "_law_place_word" = some (some (.ref f19))) (l19 : K.lookup f19 = some ⟨oc19, od19, .func (PySem.W.fnOf "_law_place_word" "_law_place_word" (defArgs s__law_place_word) (defBody s__law_place_word) (defScope s__law_place_word) .none kV19 dc19 pm19 an19 cd19 ct19), sl19⟩) (c19 : PySem.W.codeIn K cd19 "_law_place_word" = true) (k19 : PySem.W.keepIn K (.ref f19) = true)
    (a20 : PySem.W.nsIn K mainGlobals "_law_rising" = some (some (.ref f20))) (l20 : K.lookup f20 = some ⟨oc20, od20, .func (PySem.W.fnOf "_law_rising" "_law_rising" (defArgs s__law_rising) (defBody s__law_rising) (defScope s__law_rising) .none kV20 dc20 pm20 an20 cd20 ct20), sl20⟩) (c20 : PySem.W.codeIn K cd20 "_law_rising" = true) (k20 : PySem.W.keepIn K (.ref f20) = true)
    (a21 : PySem.W.nsIn K mainGlobals "_law_note" = some (some (.ref f21))) (l21 : K.lookup f21 = some ⟨oc21, od21, .func (PySem.W.fnOf "_law_note" "_law_note" (defArgs s__law_note) (defBody s__law_note) (defScope s__law_note) .none kV21 dc21 pm21 an21 cd21 ct21), sl21⟩) (c21 : PySem.W.codeIn K cd21 "_law_note" = true) (k21 : PySem.W.keepIn K (.ref f21) = true)
    (a22 : PySem.W.nsIn K mainGlobals "_law_due" = some (some (.ref f22))) (l22 : K.lookup f22 = some ⟨oc22, od22, .func (PySem.W.fnOf "_law_due" "_law_due" (defArgs s__law_due) (defBody s__law_due) (defScope s__law_due) .none kV22 dc22 pm22 an22 cd22 ct22), sl22⟩) (c22 : PySem.W.codeIn K cd22 "_law_due" = true) (k22 : PySem.W.keepIn K (.ref f22) = true)
    (a23 : PySem.W.nsIn K mainGlobals "law" = some (some (.ref f23))) (l23 : K.lookup f23 = some ⟨oc23, od23, .func (PySem.W.fnOf "law" "law" (defArgs s_law) (defBody s_law) (defScope s_law) .none kV23 dc23 pm23 an23 cd23 ct23), sl23⟩) (c23 : PySem.W.codeIn K cd23 "law" = true) (k23 : PySem.W.keepIn K (.ref f23) = true)
    {nm q : Str} {N : Addr} {bs : List Value} {bm : List Value} {sn : List Str} {sub : List Value} {ab : Bool} {col : Option Bool} {dd : Option Addr} {m0 m1 m2 m3 m5 : Option Value}
    (aC : PySem.W.nsIn K mainGlobals "BadLine" = some (some (.ref C))) (aT : PySem.W.nsIn K mainGlobals "BadText" = some (some (.ref BT)))
    (xL : K.lookup C = some (excClassObj nm q C N bs bm true sn sub ab col dd m0 m1 m2 m3 m5 "ValueError.__new__")) (xB : PySem.HandSPX.refsVE bm = true)
    {nmB qB : Str} {NB : Addr} {bsB : List Value} {bmB : List Value} {snB : List Str} {subB : List Value} {abB : Bool} {colB : Option Bool} {ddB : Option Addr} {n0 n1 n2 n3 n5 : Option Value} (xL2 : K.lookup BT = some (excClassObj nmB qB BT NB bsB bmB true snB subB abB colB ddB n0 n1 n2 n3 n5 "ValueError.__new__"))
    (sa : PySem.W.findIn K (.ref C) "__setattr__" = some (some (.builtin "object.__setattr__")))
    (exC : PySem.W.subIn K (.ref C) (.type "BaseException") = some true)
    (tyC : PySem.W.typeIn K (.ref C) = some (.type "type"))
    (kC : PySem.W.keepIn K (.ref C) = true)
    (nol : PySem.W.findIn K (.ref C) "line" = some none)
    (i1 : PySem.W.findIn K (.ref C) "__init__" = some (some (.ref f24)))
    (i2 : PySem.W.typeIn K (.ref f24) = some (.type "function"))
    (lI : K.lookup f24 = some ⟨oc24, od24, .func (PySem.W.fnOf "__init__" "BadLine.__init__" (defArgs s_init) (defBody s_init) (defScope s_init) .none kV24 dc24 pm24 an24 cd24 ct24), sl24⟩)
    (cI : PySem.W.codeIn K cd24 "BadLine.__init__" = true)
    (kI : PySem.W.keepIn K (.ref f24) = true)
    (ga : PySem.W.findIn K (.ref C) "__getattribute__" = some (some (.builtin "BaseException.__getattribute__")))
    (gg : PySem.W.findIn K (.ref C) "__getattr__" = some none)
    (ha : PySem.W.findIn K (.ref C) "__class__" = some (some (.builtin "object.__class__")))
    (hn : PySem.W.specialIn K (.builtin "object.__class__") "__get__" = some (some (.builtin "getset_descriptor.__get__")))
    (ht : PySem.W.takesIn K (.builtin "object.__class__") = some true)
    (hm : PySem.W.mroIn K C (.type "object") = some true)
    (hd : PySem.W.hasDictIn K C = true)
    (sC : PySem.W.subIn K (.ref C) (.ref C) = some true)
    (tyB : PySem.W.typeIn K (.ref BT) = some (.type "type"))
    (sB : PySem.W.subIn K (.ref C) (.ref BT) = some false)
    (neC : (C == BT) = false)
    (nb : PySem.W.nsIn K cStatics sharingNotToldKey = some none)
    (z_len : PySem.W.nsIn K mainGlobals "len" = some none)
    (z_all : PySem.W.nsIn K mainGlobals "all" = some none)
    (z_str : PySem.W.nsIn K mainGlobals "str" = some none)
    (z_int : PySem.W.nsIn K mainGlobals "int" = some none)
    (z_tuple : PySem.W.nsIn K mainGlobals "tuple" = some none)
    (z_list : PySem.W.nsIn K mainGlobals "list" = some none)
    (z_zip : PySem.W.nsIn K mainGlobals "zip" = some none)
    (z_enumerate : PySem.W.nsIn K mainGlobals "enumerate" = some none)
    (z_range : PySem.W.nsIn K mainGlobals "range" = some none)
    (z_sorted : PySem.W.nsIn K mainGlobals "sorted" = some none)
    (z_isinstance : PySem.W.nsIn K mainGlobals "isinstance" = some none)
    {uF uM uR : Value} (gF : PySem.W.nsIn K mainGlobals "FIGURES" = some (some uF)) (rF : RelV (.str "0123456789") uF) (gM : PySem.W.nsIn K mainGlobals "MOST_FIGURES" = some (some uM)) (rM : RelV (.int 6) uM) (gR : PySem.W.nsIn K mainGlobals "ROOT" = some (some uR)) (rR : RelV (.str ".") uR) :
    ∃ fd : FuncData, (∀ (s : Shared) (v : Value), BindsTo s fd ⟨[v], []⟩ [("script", v)]) ∧ ∀ base : Heap, K.In base → base.Ns mainGlobals mg → FnOk l.prog w K mg base CX0 21 fa fd ["script"] (spLaw K) := by
  have e := hfa.symm.trans (PySem.W.mg_of X G a23)
  cases e
  have F0 := fun_mk (st := s_lines_of) l0 c0 k0
  have A0 : Fs K mg "lines_of" s_lines_of ["text"] f0 := ⟨⟨_, F0, F0.binds (ps := ["text"]) fun _ _ _ _ _ _ us hl => match us, hl with | [_], _ => rfl⟩, PySem.W.mg_of X G a0⟩
  have F1 := fun_mk (st := s_words_of) l1 c1 k1
  have A1 : Fs K mg "words_of" s_words_of ["line"] f1 := ⟨⟨_, F1, F1.binds (ps := ["line"]) fun _ _ _ _ _ _ us hl => match us, hl with | [_], _ => rfl⟩, PySem.W.mg_of X G a1⟩
  have F2 := fun_mk (st := s_number_of) l2 c2 k2
  have A2 : Fs K mg "number_of" s_number_of ["word"] f2 := ⟨⟨_, F2, F2.binds (ps := ["word"]) fun _ _ _ _ _ _ us hl => match us, hl with | [_], _ => rfl⟩, PySem.W.mg_of X G a2⟩
  have F3 := fun_mk (st := s_numbers_of) l3 c3 k3
  have A3 : Fs K mg "numbers_of" s_numbers_of ["words"] f3 := ⟨⟨_, F3, F3.binds (ps := ["words"]) fun _ _ _ _ _ _ us hl => match us, hl with | [_], _ => rfl⟩, PySem.W.mg_of X G a3⟩
  have F4 := fun_mk (st := s_is_rising) l4 c4 k4
  have A4 : Fs K mg "is_rising" s_is_rising ["listed"] f4 := ⟨⟨_, F4, F4.binds (ps := ["listed"]) fun _ _ _ _ _ _ us hl => match us, hl with | [_], _ => rfl⟩, PySem.W.mg_of X G a4⟩
  have F5 := fun_mk (st := s_place_word) l5 c5 k5
  have A5 : Fs K mg "place_word" s_place_word ["place"] f5 := ⟨⟨_, F5, F5.binds (ps := ["place"]) fun _ _ _ _ _ _ us hl => match us, hl with | [_], _ => rfl⟩, PySem.W.mg_of X G a5⟩
  have F6 := fun_mk (st := s_place_of) l6 c6 k6
  have A6 : Fs K mg "place_of" s_place_of ["word"] f6 := ⟨⟨_, F6, F6.binds (ps := ["word"]) fun _ _ _ _ _ _ us hl => match us, hl with | [_], _ => rfl⟩, PySem.W.mg_of X G a6⟩
  have F7 := fun_mk (st := s_places_of) l7 c7 k7
  have A7 : Fs K mg "places_of" s_places_of ["words"] f7 := ⟨⟨_, F7, F7.binds (ps := ["words"]) fun _ _ _ _ _ _ us hl => match us, hl with | [_], _ => rfl⟩, PySem.W.mg_of X G a7⟩
  have F8 := fun_mk (st := s_read_lines) l8 c8 k8
  have A8 : Fs K mg "read_lines" s_read_lines ["text", "form"] f8 := ⟨⟨_, F8, F8.binds (ps := ["text", "form"]) fun _ _ _ _ _ _ us hl => match us, hl with | [_, _], _ => rfl⟩, PySem.W.mg_of X G a8⟩
  have F9 := fun_mk (st := s_read_one) l9 c9 k9
  have A9 : Fs K mg "read_one" s_read_one ["text", "form"] f9 := ⟨⟨_, F9, F9.binds (ps := ["text", "form"]) fun _ _ _ _ _ _ us hl => match us, hl with | [_, _], _ => rfl⟩, PySem.W.mg_of X G a9⟩
  have F10 := fun_mk (st := s_show_place) l10 c10 k10
  have A10 : Fs K mg "show_place" s_show_place ["place"] f10 := ⟨⟨_, F10, F10.binds (ps := ["place"]) fun _ _ _ _ _ _ us hl => match us, hl with | [_], _ => rfl⟩, PySem.W.mg_of X G a10⟩
  have F11 := fun_mk (st := s_read_place) l11 c11 k11
  have A11 : Fs K mg "read_place" s_read_place ["text"] f11 := ⟨⟨_, F11, F11.binds (ps := ["text"]) fun _ _ _ _ _ _ us hl => match us, hl with | [_], _ => rfl⟩, PySem.W.mg_of X G a11⟩
  have F12 := fun_mk (st := s_show_places) l12 c12 k12
  have A12 : Fs K mg "show_places" s_show_places ["places"] f12 := ⟨⟨_, F12, F12.binds (ps := ["places"]) fun _ _ _ _ _ _ us hl => match us, hl with | [_], _ => rfl⟩, PySem.W.mg_of X G a12⟩
  have F13 := fun_mk (st := s_places_line) l13 c13 k13
  have A13 : Fs K mg "places_line" s_places_line ["line"] f13 := ⟨⟨_, F13, F13.binds (ps := ["line"]) fun _ _ _ _ _ _ us hl => match us, hl with | [_], _ => rfl⟩, PySem.W.mg_of X G a13⟩
  have F14 := fun_mk (st := s_read_places) l14 c14 k14
  have A14 : Fs K mg "read_places" s_read_places ["text"] f14 := ⟨⟨_, F14, F14.binds (ps := ["text"]) fun _ _ _ _ _ _ us hl => match us, hl with | [_], _ => rfl⟩, PySem.W.mg_of X G a14⟩
  have F15 := fun_mk (st := s__law_numbers) l15 c15 k15
  have A15 : Fs K mg "_law_numbers" s__law_numbers ["script", "at", "many"] f15 := ⟨⟨_, F15, F15.binds (ps := ["script", "at", "many"]) fun _ _ _ _ _ _ us hl => match us, hl with | [_, _, _], _ => rfl⟩, PySem.W.mg_of X G a15⟩
  have F16 := fun_mk (st := s__law_texts) l16 c16 k16
  have A16 : Fs K mg "_law_texts" s__law_texts ["text", "numbers", "pieces"] f16 := ⟨⟨_, F16, F16.binds (ps := ["text", "numbers", "pieces"]) fun _ _ _ _ _ _ us hl => match us, hl with | [_, _, _], _ => rfl⟩, PySem.W.mg_of X G a16⟩
  have F17 := fun_mk (st := s__law_number) l17 c17 k17
  have A17 : Fs K mg "_law_number" s__law_number ["word"] f17 := ⟨⟨_, F17, F17.binds (ps := ["word"]) fun _ _ _ _ _ _ us hl => match us, hl with | [_], _ => rfl⟩, PySem.W.mg_of X G a17⟩
  have F18 := fun_mk (st := s__law_place_told) l18 c18 k18
  have A18 : Fs K mg "_law_place_told" s__law_place_told ["word"] f18 := ⟨⟨_, F18, F18.binds (ps := ["word"]) fun _ _ _ _ _ _ us hl => match us, hl with | [_], _ => rfl⟩, PySem.W.mg_of X G a18⟩
  have F19 := fun_mk (st := s__law_place_word) l19 c19 k19
  have A19 : Fs K mg "_law_place_word" s__law_place_word ["place"] f19 := ⟨⟨_, F19, F19.binds (ps := ["place"]) fun _ _ _ _ _ _ us hl => match us, hl with | [_], _ => rfl⟩, PySem.W.mg_of X G a19⟩
  have F20 := fun_mk (st := s__law_rising) l20 c20 k20
  have A20 : Fs K mg "_law_rising" s__law_rising ["keys"] f20 := ⟨⟨_, F20, F20.binds (ps := ["keys"]) fun _ _ _ _ _ _ us hl => match us, hl with | [_], _ => rfl⟩, PySem.W.mg_of X G a20⟩
  have F21 := fun_mk (st := s__law_note) l21 c21 k21
  have A21 : Fs K mg "_law_note" s__law_note ["kind", "text"] f21 := ⟨⟨_, F21, F21.binds (ps := ["kind", "text"]) fun _ _ _ _ _ _ us hl => match us, hl with | [_, _], _ => rfl⟩, PySem.W.mg_of X G a21⟩
  have F22 := fun_mk (st := s__law_due) l22 c22 k22
  have A22 : Fs K mg "_law_due" s__law_due ["kind", "text"] f22 := ⟨⟨_, F22, F22.binds (ps := ["kind", "text"]) fun _ _ _ _ _ _ us hl => match us, hl with | [_, _], _ => rfl⟩, PySem.W.mg_of X G a22⟩
  have F23 := fun_mk (st := s_law) l23 c23 k23
  have A23 : Fs K mg "law" s_law ["script"] fa := ⟨⟨_, F23, F23.binds (ps := ["script"]) fun _ _ _ _ _ _ us hl => match us, hl with | [_], _ => rfl⟩, PySem.W.mg_of X G a23⟩
  have FI := fun_mk (st := s_init) lI cI kI
  have hc : (PySem.W.clsIn K C).isSome = true := by
    unfold PySem.W.clsIn
    rw [xL]
    rfl
  have hc2 : (PySem.W.clsIn K BT).isSome = true := by
    unfold PySem.W.clsIn
    rw [xL2]
    rfl
  have kit : PySem.W.kitOne K (.ref C) (.ref BT) = some false := kit_no neC hc2 tyB sB
  have hT : Tx K mg := { b_len := PySem.W.mg_none_of X G z_len, b_all := PySem.W.mg_none_of X G z_all, b_str := PySem.W.mg_none_of X G z_str, b_int := PySem.W.mg_none_of X G z_int, b_tuple := PySem.W.mg_none_of X G z_tuple, b_list := PySem.W.mg_none_of X G z_list, b_zip := PySem.W.mg_none_of X G z_zip, b_enumerate := PySem.W.mg_none_of X G z_enumerate, b_range := PySem.W.mg_none_of X G z_range, b_sorted := PySem.W.mg_none_of X G z_sorted, b_isinstance := PySem.W.mg_none_of X G z_isinstance, g_FIGURES := ⟨_, PySem.W.mg_of X G gF, rF⟩, g_MOST_FIGURES := ⟨_, PySem.W.mg_of X G gM, rM⟩, g_ROOT := ⟨_, PySem.W.mg_of X G gR, rR⟩ }
  have hE : Err K mg C BT f24 := { g := PySem.W.mg_of X G aC, gT := PySem.W.mg_of X G aT, oex := ⟨⟨_, _, _, _, _, _, _, _, _, _, _, _, _, _, _, xL, xB⟩, sa, exC, tyC, kC⟩, no := nol, i1 := i1, i2 := i2, ini := ⟨_, FI, FI.binds (ps := ["self", "line"]) fun _ _ _ _ _ _ us hl => match us, hl with | [_, _], _ => rfl⟩, c := ⟨hc, ga, gg, exC, ha, hn, ht, hm⟩, xf := ⟨ga, gg, exC, hd⟩, exm := exm_self exC hc tyC sC, kit := kit }
  exact ⟨PySem.W.fnOf "law" "law" (defArgs s_law) (defBody s_law) (defScope s_law) .none kV23 dc23 pm23 an23 cd23 ct23, fun s v => .of_eq rfl, fun base _ _ => law_ok hT nb hE A0 A1 A2 A3 A4 A5 A6 A7 A8 A9 A10 A11 A12 A13 A14 A15 A16 A17 A18 A19 A20 A21 A22 A23 F23⟩
end K85

set_option Elab.async false
set_option linter.all false
open PySem PySem.W PyProof.Rows
set_option maxRecDepth 100000 in
set_option maxHeartbeats 0 in
theorem PySem.Challenge.cw_treesasked_k85_notes_of_places_holds : PySem.Challenge.rw_treesasked_k85_notes_of_places.Holds := by
  w_on; o_law; k_head; (case hw => w_witness2)
  k_fill
  refine L2.walk_of (l := PySem.Challenge.rw_treesasked_k85_notes_of_places) (n := 63) (k := 21) (x := "script") (CX := fun _ => L2.CX0) (sp := fun w => K85.spLaw _) rfl (by decide) rfl ⟨rfl, by decide, by decide⟩ (fun w h Y => PySem.W.kIn_of Y) ?F (fun _ _ a ns hl _ hS => ⟨a, ns, rfl, hS, hl, fun _ => rfl⟩) (fun _ _ _ _ _ h => h)
  case F =>
    intro w mg fa h KX G hmg
    refine' K85.all_mk KX G hmg ?u_a0 ?u_l0 ?u_c0 ?u_k0 ?u_a1 ?u_l1 ?u_c1 ?u_k1 ?u_a2 ?u_l2 ?u_c2 ?u_k2 ?u_a3 ?u_l3 ?u_c3 ?u_k3 ?u_a4 ?u_l4 ?u_c4 ?u_k4 ?u_a5 ?u_l5 ?u_c5 ?u_k5 ?u_a6 ?u_l6 ?u_c6 ?u_k6 ?u_a7 ?u_l7 ?u_c7 ?u_k7 ?u_a8 ?u_l8 ?u_c8 ?u_k8 ?u_a9 ?u_l9 ?u_c9 ?u_k9 ?u_a10 ?u_l10 ?u_c10 ?u_k10 ?u_a11 ?u_l11 ?u_c11 ?u_k11 ?u_a12 ?u_l12 ?u_c12 ?u_k12 ?u_a13 ?u_l13 ?u_c13 ?u_k13 ?u_a14 ?u_l14 ?u_c14 ?u_k14 ?u_a15 ?u_l15 ?u_c15 ?u_k15 ?u_a16 ?u_l16 ?u_c16 ?u_k16 ?u_a17 ?u_l17 ?u_c17 ?u_k17 ?u_a18 ?u_l18 ?u_c18 ?u_k18 ?u_a19 ?u_l19 ?u_c19 ?u_k19 ?u_a20 ?u_l20 ?u_c20 ?u_k20 ?u_a21 ?u_l21 ?u_c21 ?u_k21 ?u_a22 ?u_l22 ?u_c22 ?u_k22 ?u_a23 ?u_l23 ?u_c23 ?u_k23 ?u_aC ?u_aT ?u_xL ?u_xB ?u_xL2 ?u_sa ?u_exC ?u_tyC ?u_kC ?u_nol ?u_i1 ?u_i2 ?u_lI ?u_cI ?u_kI ?u_ga ?u_gg ?u_ha ?u_hn ?u_ht ?u_hm ?u_hd ?u_sC ?u_tyB ?u_sB ?u_neC ?u_nb ?u_z_len ?u_z_all ?u_z_str ?u_z_int ?u_z_tuple ?u_z_list ?u_z_zip ?u_z_enumerate ?u_z_range ?u_z_sorted ?u_z_isinstance ?u_gF ?u_rF ?u_gM ?u_rM ?u_gR ?u_rR
    (case u_a0 => k_is)
    (case u_l0 => k_is)
    (case u_c0 => k_is)
    (case u_k0 => k_is)
    (case u_a1 => k_is)
    (case u_l1 => k_is)
    (case u_c1 => k_is)
    (case u_k1 => k_is)
    (case u_a2 => k_is)
    (case u_l2 => k_is)
    (case u_c2 => k_is)
    (case u_k2 => k_is)
    (case u_a3 => k_is)
    (case u_l3 => k_is)
    (case u_c3 => k_is)
    (case u_k3 => k_is)
    (case u_a4 => k_is)
    (case u_l4 => k_is)
    (case u_c4 => k_is)
    (case u_k4 => k_is)
    (case u_a5 => k_is)
    (case u_l5 => k_is)
    (case u_c5 => k_is)
    (case u_k5 => k_is)
    (case u_a6 => k_is)
    (case u_l6 => k_is)
    (case u_c6 => k_is)
    (case u_k6 => k_is)
    (case u_a7 => k_is)
    (case u_l7 => k_is)
    (case u_c7 => k_is)
    (case u_k7 => k_is)
    (case u_a8 => k_is)
    (case u_l8 => k_is)
    (case u_c8 => k_is)
    (case u_k8 => k_is)
    (case u_a9 => k_is)
    (case u_l9 => k_is)
    (case u_c9 => k_is)
    (case u_k9 => k_is)
    (case u_a10 => k_is)
    (case u_l10 => k_is)
    (case u_c10 => k_is)
    (case u_k10 => k_is)
    (case u_a11 => k_is)
    (case u_l11 => k_is)
    (case u_c11 => k_is)
    (case u_k11 => k_is)
    (case u_a12 => k_is)
    (case u_l12 => k_is)
    (case u_c12 => k_is)
    (case u_k12 => k_is)
    (case u_a13 => k_is)
    (case u_l13 => k_is)
    (case u_c13 => k_is)
    (case u_k13 => k_is)
    (case u_a14 => k_is)
    (case u_l14 => k_is)
    (case u_c14 => k_is)
    (case u_k14 => k_is)
    (case u_a15 => k_is)
    (case u_l15 => k_is)
    (case u_c15 => k_is)
    (case u_k15 => k_is)
    (case u_a16 => k_is)
    (case u_l16 => k_is)
    (case u_c16 => k_is)
    (case u_k16 => k_is)
    (case u_a17 => k_is)
    (case u_l17 => k_is)
    (case u_c17 => k_is)
    (case u_k17 => k_is)
    (case u_a18 => k_is)
    (case u_l18 => k_is)
    (case u_c18 => k_is)
    (case u_k18 => k_is)
    (case u_a19 => k_is)
    (case u_l19 => k_is)
    (case u_c19 => k_is)
    (case u_k19 => k_is)
    (case u_a20 => k_is)
    (case u_l20 => k_is)
    (case u_c20 => k_is)
    (case u_k20 => k_is)
    (case u_a21 => k_is)
    (case u_l21 => k_is)
    (case u_c21 => k_is)
    (case u_k21 => k_is)
    (case u_a22 => k_is)
    (case u_l22 => k_is)
    (case u_c22 => k_is)
    (case u_k22 => k_is)
    (case u_a23 => k_is)
    (case u_l23 => k_is)
    (case u_c23 => k_is)
    (case u_k23 => k_is)
    (case u_aC => k_is)
    (case u_aT => k_is)
    (case u_xL => k_is)
    (case u_xB => first | rfl | decide +kernel)
    (case u_xL2 => k_is)
    (case u_sa => k_is)
    (case u_exC => k_is)
    (case u_tyC => k_is)
    (case u_kC => k_is)
    (case u_nol => k_is)
    (case u_i1 => k_is)
    (case u_i2 => k_is)
    (case u_lI => k_is)
    (case u_cI => k_is)
    (case u_kI => k_is)
    (case u_ga => k_is)
    (case u_gg => k_is)
    (case u_ha => k_is)
    (case u_hn => k_is)
    (case u_ht => k_is)
    (case u_hm => k_is)
    (case u_hd => k_is)
    (case u_sC => first | rfl | k_is)
    (case u_tyB => k_is)
    (case u_sB => k_is)
    (case u_neC => first | rfl | decide)
    (case u_nb => k_is)
    (case u_z_len => k_is)
    (case u_z_all => k_is)
    (case u_z_str => k_is)
    (case u_z_int => k_is)
    (case u_z_tuple => k_is)
    (case u_z_list => k_is)
    (case u_z_zip => k_is)
    (case u_z_enumerate => k_is)
    (case u_z_range => k_is)
    (case u_z_sorted => k_is)
    (case u_z_isinstance => k_is)
    (case u_gF => k_is)
    (case u_rF => first | rfl | exact ⟨_, rfl⟩)
    (case u_gM => k_is)
    (case u_rM => first | rfl | exact ⟨_, rfl⟩)
    (case u_gR => k_is)
    (case u_rR => first | rfl | exact ⟨_, rfl⟩)

