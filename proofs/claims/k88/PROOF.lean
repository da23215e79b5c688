import PyProof.Rows.All
import Wide.All
import OpenK.AllK
import Wide.FinOn
import HandS.ForMost
import HandS.Walk
import HandS.Evl
import KE.KDictKeyed
import KE.KDictCopyH
import KE.KDictList
import HandS.TupAny
import HandS.TupLe
import HandS.Deep
import HandS.IsInst
import HandS.Wide
import HandS.Style
import HandS.ForExc
import HandS.ExcInit
import HandS.ExcField
import HandS.CallLocal
import KE.KExcIs
import PyProof.StrReplace2
import HandS.Replace
import HandS.ReplaceDef
import HandS.NamedTupSort
import KE.DataCmp
import KE.SortCalls
import KE.DataFind
import HandS.Flow
import HandS.Conv
import KE.SortData
import PySem.Challenge.RW_treesasked_k88_notes_of_tables
set_option Elab.async false
set_option linter.all false
set_option maxRecDepth 100000
set_option maxHeartbeats 4000000
/-! DD1: data as trees (D), what represents them in the abstract heap (Rp), a frame's slots as data (Cfg),
and what a reading gives in terms of data (EvD, EvB, EvL, ExS). -/
namespace DD
open PySem L2 Evl

inductive D where
  | val (v : V)
  | lst (xs : List D)
  | tup (xs : List D)

mutual
inductive Rp (K : PySem.W.Frag) (G : Hp) : V → D → Prop
  | val (v : V) : Rp K G v (.val v)
  | lst {a : Addr} {vs : List V} {ds : List D} : SqL K G a vs → Rps K G vs ds → Rp K G (.ref a) (.lst ds)
  | tup {a : Addr} {vs : List V} {ds : List D} : SqT K G a vs → Rps K G vs ds → Rp K G (.ref a) (.tup ds)
inductive Rps (K : PySem.W.Frag) (G : Hp) : List V → List D → Prop
  | nil : Rps K G [] []
  | cons {v : V} {d : D} {vs : List V} {ds : List D} : Rp K G v d → Rps K G vs ds → Rps K G (v :: vs) (d :: ds)
end

section
variable {K : PySem.W.Frag} {G G' H H' H0 : Hp}
mutual
theorem Rp.mono (e : Ex G G') : ∀ {v : V} {d : D}, Rp K G v d → Rp K G' v d
  | _, _, .val v => .val v
  | _, _, .lst h r => .lst (ex_l e h) (Rps.mono e r)
  | _, _, .tup h r => .tup (ex_t e h) (Rps.mono e r)
theorem Rps.mono (e : Ex G G') : ∀ {vs : List V} {ds : List D}, Rps K G vs ds → Rps K G' vs ds
  | _, _, .nil => .nil
  | _, _, .cons h r => .cons (Rp.mono e h) (Rps.mono e r)
end
theorem Rps.length : ∀ {vs : List V} {ds : List D}, Rps K G vs ds → vs.length = ds.length
  | _, _, .nil => rfl
  | _, _, .cons _ r => by rw [List.length_cons, List.length_cons, Rps.length r]
theorem Rps.get : ∀ {vs : List V} {ds : List D} {i : Nat} {d : D}, Rps K G vs ds → ds[i]? = some d → ∃ v, vs[i]? = some v ∧ Rp K G v d
  | _, _, _, _, .nil, h => by simp at h
  | _, _, 0, _, .cons h _, e => by
    simp only [List.getElem?_cons_zero, Option.some.injEq] at e
    subst e
    exact ⟨_, rfl, h⟩
  | _, _, i + 1, _, .cons _ r, e => by
    simp only [List.getElem?_cons_succ] at e
    obtain ⟨v, h1, h2⟩ := Rps.get r e
    exact ⟨v, by simpa using h1, h2⟩
theorem Rps.getV : ∀ {vs : List V} {ds : List D} {i : Nat} {v : V}, Rps K G vs ds → vs[i]? = some v → ∃ d, ds[i]? = some d ∧ Rp K G v d
  | _, _, _, _, .nil, h => by simp at h
  | _, _, 0, _, .cons h _, e => by
    simp only [List.getElem?_cons_zero, Option.some.injEq] at e
    subst e
    exact ⟨_, rfl, h⟩
  | _, _, i + 1, _, .cons _ r, e => by
    simp only [List.getElem?_cons_succ] at e
    obtain ⟨v, h1, h2⟩ := Rps.getV r e
    exact ⟨v, by simpa using h1, h2⟩
theorem Rps.append : ∀ {vs ws : List V} {ds es : List D}, Rps K G vs ds → Rps K G ws es → Rps K G (vs ++ ws) (ds ++ es)
  | _, _, _, _, .nil, s => s
  | _, _, _, _, .cons h r, s => .cons h (Rps.append r s)
theorem Rps.take : ∀ {vs : List V} {ds : List D} (n : Nat), Rps K G vs ds → Rps K G (vs.take n) (ds.take n)
  | _, _, 0, _ => .nil
  | _, _, _ + 1, .nil => .nil
  | _, _, n + 1, .cons h r => .cons h (Rps.take n r)
theorem Rps.drop : ∀ {vs : List V} {ds : List D} (n : Nat), Rps K G vs ds → Rps K G (vs.drop n) (ds.drop n)
  | _, _, 0, r => r
  | _, _, _ + 1, .nil => .nil
  | _, _, n + 1, .cons _ r => Rps.drop n r
theorem Rps.reverse : ∀ {vs : List V} {ds : List D}, Rps K G vs ds → Rps K G vs.reverse ds.reverse
  | _, _, .nil => .nil
  | _, _, .cons h r => by
    rw [List.reverse_cons, List.reverse_cons]
    exact (Rps.reverse r).append (.cons h .nil)
theorem Rps.vals : ∀ {f : V → V} {vs : List V}, Rps K G vs (vs.map .val)
  | _, [] => .nil
  | f, v :: vs => .cons (.val v) (Rps.vals (f := f) (vs := vs))
theorem Rps.of_vals : ∀ {vs ws : List V}, Rps K G vs (ws.map .val) → vs = ws
  | [], [], _ => rfl
  | [], _ :: _, h => by cases h
  | _ :: _, [], h => by cases h
  | v :: vs, w :: ws, h => by
    cases h with
    | cons a b =>
      cases a
      rw [Rps.of_vals b]

/-! ### the pure part G of the heap H, and how both go on -/
/-- the pure part grew by new things alone, the heap grew; what was there and not pure is not pure now -/
structure Wd (G H G' H' : Hp) : Prop where
  g : Ex G G'
  h : Ex H H'
  s : Ex G' H'
  c : ∀ a, H a ≠ none → G a = none → G' a = none
theorem Wd.refl (e : Ex G H) : Wd G H G H := ⟨Ex.refl G, Ex.refl H, e, fun _ _ h => h⟩
theorem Wd.trans {G1 H1 G2 H2 : Hp} (a : Wd G H G1 H1) (b : Wd G1 H1 G2 H2) : Wd G H G2 H2 :=
  ⟨a.g.trans b.g, a.h.trans b.h, b.s, fun x hx gx => b.c x (fun z => hx (by
    cases q : H x with
    | none => rfl
    | some o => rw [a.h x o q] at z; cases z)) (a.c x hx gx)⟩
/-- a new pure object -/
theorem Wd.new {p : Addr} {o : HO} (e : Ex G H) (h : H p = none) : Wd G H (upd G p o) (upd H p o) := by
  have g : G p = none := fresh_back e h
  refine ⟨Ex.new g, Ex.new h, fun a u q => ?_, fun a ha ga => ?_⟩
  · by_cases z : a = p
    · subst z
      rw [upd_same] at q ⊢
      exact q
    · rw [upd_ne z] at q ⊢
      exact e a u q
  · by_cases z : a = p
    · subst z
      exact absurd h ha
    · rw [upd_ne z]
      exact ga
/-- a new object that is not pure -/
theorem Wd.newH {p : Addr} {o : HO} (e : Ex G H) (h : H p = none) : Wd G H G (upd H p o) := by
  have g : G p = none := fresh_back e h
  refine ⟨Ex.refl G, Ex.new h, fun a u q => ?_, fun a ha ga => ga⟩
  have z : a ≠ p := fun z => by rw [z, g] at q; cases q
  rw [upd_ne z]
  exact e a u q

/-! ### slots as data -/
/-- of a slot: nothing is known; it holds a value that represents d; it holds a list of the def's own, not pure, whose items represent ds -/
inductive DE where
  | un
  | pu (d : D)
  | ow (ds : List D)
  | od (P : Program) (w : World) (kvs : List (D × D))
abbrev DEnv := List DE

def Own (K : PySem.W.Frag) (H0 G H : Hp) (a : Addr) (ds : List D) : Prop := ∃ vs, H a = some (.lst vs) ∧ G a = none ∧ H0 a = none ∧ Rps K G vs ds
mutual
/-- data as a key of a dict -/
def nk : D → Option NestedKey
  | .val .non => some .none
  | .val (.bl b) => some (.num (if b = true then 1 else 0))
  | .val (.int i) => some (.num i)
  | .val (.str x) => some (.text x)
  | .tup ds => (nks ds).map .tup
  | _ => none
def nks : List D → Option (List NestedKey)
  | [] => some []
  | d :: ds => (nk d).bind fun k => (nks ds).map (k :: ·)
end
/-- a dict whose keys are tuples, its entries told with the keys' places and the values as they stand -/
def NDict (P : Program) (w : World) (a : Addr) (xs : List (NestedKey × Addr × Value)) : HO :=
  .ext fun h => xs.length ≤ sizeLine ∧ (a == sysModules) = false ∧ ∃ o es ep, h.get? a = some o ∧ o.ExactDict ∧ o.data = .dict es ep ∧ es.toList = xs.map (entryOfKey (nestedKind P w)) ∧ (xs.map (·.1)).Nodup
def Ent (K : PySem.W.Frag) (G : Hp) (x : NestedKey × Addr × Value) (kv : D × D) : Prop := nk kv.1 = some x.1 ∧ x.1.depth ≤ 8 ∧ Rp K G (.ref x.2.1) kv.1 ∧ ∃ v, RelV v x.2.2 ∧ Rp K G v kv.2
def OwnD (K : PySem.W.Frag) (H0 G H : Hp) (a : Addr) (P : Program) (w : World) (kvs : List (D × D)) : Prop := ∃ xs, H a = some (NDict P w a xs) ∧ G a = none ∧ H0 a = none ∧ Paired (Ent K G) xs kvs
theorem Ent.mono {K : PySem.W.Frag} {G G' : Hp} {x : NestedKey × Addr × Value} {kv : D × D} (e : Ex G G') (h : Ent K G x kv) : Ent K G' x kv := by
  obtain ⟨h1, h2, h3, v, h4, h5⟩ := h
  exact ⟨h1, h2, h3.mono e, v, h4, h5.mono e⟩
def Slot (K : PySem.W.Frag) (H0 G H : Hp) (o : Option (Option V)) : DE → Prop
  | .un => True
  | .pu d => ∃ v, o = some (some v) ∧ Rp K G v d
  | .ow ds => ∃ a, o = some (some (.ref a)) ∧ Own K H0 G H a ds
  | .od P w kvs => ∃ a, o = some (some (.ref a)) ∧ OwnD K H0 G H a P w kvs
def isOw : DE → Bool
  | .ow _ => true
  | .od _ _ _ => true
  | _ => false
structure Cfg (K : PySem.W.Frag) (G0 H0 G H : Hp) (σ : L2.St) (ρ : DEnv) : Prop where
  wd : Ex G0 G ∧ Ex H0 H ∧ Ex G H ∧ ∀ a, H0 a ≠ none → G0 a = none → G a = none
  len : ρ.length = σ.length
  slot : ∀ (i : Nat) (e : DE), ρ[i]? = some e → Slot K H0 G H (σ[i]?) e
  dis : ∀ (i j : Nat) (ei ej : DE) (a : Addr), i ≠ j → ρ[i]? = some ei → ρ[j]? = some ej → isOw ei = true → isOw ej = true → σ[i]? = some (some (.ref a)) → σ[j]? ≠ some (some (.ref a))
theorem Cfg.wd0 {G0 : Hp} {σ : L2.St} {ρ : DEnv} (c : Cfg K G0 H0 G H σ ρ) : Wd G0 H0 G H := ⟨c.wd.1, c.wd.2.1, c.wd.2.2.1, c.wd.2.2.2⟩
theorem Cfg.sub {G0 : Hp} {σ : L2.St} {ρ : DEnv} (c : Cfg K G0 H0 G H σ ρ) : Ex G H := c.wd.2.2.1
theorem Slot.mono {o : Option (Option V)} {e : DE} (w : Wd G H G' H') (h : Slot K H0 G H o e) : Slot K H0 G' H' o e := by
  cases e with
  | un => trivial
  | pu d =>
    obtain ⟨v, h1, h2⟩ := h
    exact ⟨v, h1, h2.mono w.g⟩
  | ow ds =>
    obtain ⟨a, h1, vs, h2, h3, h4, h5⟩ := h
    exact ⟨a, h1, vs, w.h a _ h2, w.c a (by rw [h2]; exact Option.some_ne_none _) h3, h4, h5.mono w.g⟩
  | od P wd kvs =>
    obtain ⟨a, h1, xs, h2, h3, h4, h5⟩ := h
    exact ⟨a, h1, xs, w.h a _ h2, w.c a (by rw [h2]; exact Option.some_ne_none _) h3, h4, Paired.mapP h5 fun _ _ z => z.mono w.g⟩
theorem Cfg.mono {G0 : Hp} {σ : L2.St} {ρ : DEnv} (w : Wd G H G' H') (c : Cfg K G0 H0 G H σ ρ) : Cfg K G0 H0 G' H' σ ρ := by
  have z := c.wd0.trans w
  exact ⟨⟨z.g, z.h, z.s, z.c⟩, c.len, fun i e h => (c.slot i e h).mono w, c.dis⟩
theorem getElem?_set_some {α : Type} {l : List α} {i j : Nat} {x e : α} (h : (l.set i x)[j]? = some e) : (j = i ∧ e = x ∧ i < l.length) ∨ (j ≠ i ∧ l[j]? = some e) := by
  by_cases z : j = i
  · subst z
    rw [List.getElem?_set] at h
    rw [if_pos rfl] at h
    by_cases hl : j < l.length
    · rw [if_pos hl] at h
      exact .inl ⟨rfl, (Option.some.inj h).symm, hl⟩
    · rw [if_neg hl] at h
      cases h
  · rw [List.getElem?_set_ne (Ne.symm z)] at h
    exact .inr ⟨z, h⟩
/-- a slot is stored: it holds what represents d, or is forgotten -/
theorem Cfg.set {G0 : Hp} {σ : L2.St} {ρ : DEnv} {i : Nat} {v : V} {d : D} (c : Cfg K G0 H0 G H σ ρ) (h : Rp K G v d) : Cfg K G0 H0 G H (σ.set i (some v)) (ρ.set i (.pu d)) := by
  refine ⟨c.wd, by rw [List.length_set, List.length_set]; exact c.len, fun j e q => ?_, fun j k ej ek a hjk qj qk oj ok => ?_⟩
  · rcases getElem?_set_some q with ⟨rfl, rfl, hl⟩ | ⟨hj, q⟩
    · exact ⟨v, by rw [List.getElem?_set_self (by rw [← c.len]; exact hl)], h⟩
    · rw [List.getElem?_set_ne (Ne.symm hj)]
      exact c.slot j e q
  · rcases getElem?_set_some qj with ⟨rfl, rfl, hl⟩ | ⟨hj, qj⟩
    · cases oj
    · rcases getElem?_set_some qk with ⟨rfl, rfl, hl⟩ | ⟨hk, qk⟩
      · cases ok
      · rw [List.getElem?_set_ne (Ne.symm hj), List.getElem?_set_ne (Ne.symm hk)]
        exact c.dis j k ej ek a hjk qj qk oj ok
/-- any store, the slot forgotten -/
theorem Cfg.setU {G0 : Hp} {σ : L2.St} {ρ : DEnv} {i : Nat} {o : Option V} (c : Cfg K G0 H0 G H σ ρ) : Cfg K G0 H0 G H (σ.set i o) (ρ.set i .un) := by
  refine ⟨c.wd, by rw [List.length_set, List.length_set]; exact c.len, fun j e q => ?_, fun j k ej ek a hjk qj qk oj ok => ?_⟩
  · rcases getElem?_set_some q with ⟨rfl, rfl, hl⟩ | ⟨hj, q⟩
    · trivial
    · rw [List.getElem?_set_ne (Ne.symm hj)]
      exact c.slot j e q
  · rcases getElem?_set_some qj with ⟨rfl, rfl, hl⟩ | ⟨hj, qj⟩
    · cases oj
    · rcases getElem?_set_some qk with ⟨rfl, rfl, hl⟩ | ⟨hk, qk⟩
      · cases ok
      · rw [List.getElem?_set_ne (Ne.symm hj), List.getElem?_set_ne (Ne.symm hk)]
        exact c.dis j k ej ek a hjk qj qk oj ok
/-- a new list of the def's own -/
theorem Cfg.setOw {G0 : Hp} {σ : L2.St} {ρ : DEnv} {i : Nat} {p : Addr} {vs : List V} {ds : List D} (c : Cfg K G0 H0 G H σ ρ) (h : H p = none) (r : Rps K G vs ds) :
    Cfg K G0 H0 G (upd H p (.lst vs)) (σ.set i (some (.ref p))) (ρ.set i (.ow ds)) := by
  have c1 := c.mono (Wd.newH (o := .lst vs) c.sub h)
  refine ⟨c1.wd, by rw [List.length_set, List.length_set]; exact c.len, fun j e q => ?_, fun j k ej ek a hjk qj qk oj ok => ?_⟩
  · rcases getElem?_set_some q with ⟨rfl, rfl, hl⟩ | ⟨hj, q⟩
    · exact ⟨p, by rw [List.getElem?_set_self (by rw [← c.len]; exact hl)], vs, upd_same, fresh_back c.sub h, fresh_back c.wd.2.1 h, r⟩
    · rw [List.getElem?_set_ne (Ne.symm hj)]
      exact c1.slot j e q
  · have other : ∀ (j : Nat) (e : DE), ρ[j]? = some e → isOw e = true → σ[j]? ≠ some (some (.ref p)) := fun j e q oe z => by
      have s := c.slot j e q
      cases e with
      | un => cases oe
      | pu d => cases oe
      | ow es =>
        obtain ⟨b, h1, ws, h2, _⟩ := s
        rw [z] at h1
        cases h1
        rw [h] at h2
        cases h2
      | od P w es =>
        obtain ⟨b, h1, ws, h2, _⟩ := s
        rw [z] at h1
        cases h1
        rw [h] at h2
        cases h2
    rcases getElem?_set_some qj with ⟨rfl, rfl, hl⟩ | ⟨hj, qj⟩
    · rcases getElem?_set_some qk with ⟨rfl, _, _⟩ | ⟨hk, qk⟩
      · exact absurd rfl hjk
      · rw [List.getElem?_set_self (by rw [← c.len]; exact hl), List.getElem?_set_ne (Ne.symm hk)]
        intro e
        cases e
        exact other k ek qk ok
    · have qj1 := qj
      rcases getElem?_set_some qk with ⟨rfl, rfl, hl⟩ | ⟨hk, qk⟩
      · rw [List.getElem?_set_ne (Ne.symm hj), List.getElem?_set_self (by rw [← c.len]; exact hl)]
        intro e z
        cases z
        exact other j ej qj1 oj e
      · rw [List.getElem?_set_ne (Ne.symm hj), List.getElem?_set_ne (Ne.symm hk)]
        exact c.dis j k ej ek a hjk qj qk oj ok
/-- the def's own list changes -/
theorem Cfg.mut {G0 : Hp} {σ : L2.St} {ρ : DEnv} {i : Nat} {p : Addr} {vs : List V} {ds ds0 : List D} (c : Cfg K G0 H0 G H σ ρ) (hi : ρ[i]? = some (.ow ds0)) (hp : σ[i]? = some (some (.ref p))) (r : Rps K G vs ds) :
    Cfg K G0 H0 G (upd H p (.lst vs)) σ (ρ.set i (.ow ds)) := by
  obtain ⟨a, e1, ws, e2, e3, e4, e5⟩ := c.slot i _ hi
  rw [hp] at e1
  cases e1
  refine ⟨⟨c.wd.1, Ex.mut c.wd.2.1 e4, Ex.mut c.sub e3, c.wd.2.2.2⟩, by rw [List.length_set]; exact c.len, fun j e q => ?_, fun j k ej ek a hjk qj qk oj ok => ?_⟩
  · rcases getElem?_set_some q with ⟨rfl, rfl, hl⟩ | ⟨hj, q⟩
    · exact ⟨p, hp, vs, upd_same, e3, e4, r⟩
    · have s := c.slot j e q
      cases e with
      | un => trivial
      | pu d => exact s
      | ow es =>
        obtain ⟨b, h1, ws', h2, h3⟩ := s
        have nb : b ≠ p := fun z => by
          subst z
          exact c.dis i j _ _ b (Ne.symm hj) hi q rfl rfl hp h1
        exact ⟨b, h1, ws', by rw [upd_ne nb]; exact h2, h3⟩
      | od P w es =>
        obtain ⟨b, h1, ws', h2, h3⟩ := s
        have nb : b ≠ p := fun z => by
          subst z
          exact c.dis i j _ _ b (Ne.symm hj) hi q rfl rfl hp h1
        exact ⟨b, h1, ws', by rw [upd_ne nb]; exact h2, h3⟩
  · have back : ∀ {j : Nat} {e : DE}, (ρ.set i (.ow ds))[j]? = some e → isOw e = true → ∃ e', ρ[j]? = some e' ∧ isOw e' = true := fun {j e} q oe => by
      rcases getElem?_set_some q with ⟨rfl, rfl, hl⟩ | ⟨hj, q⟩
      · exact ⟨_, hi, rfl⟩
      · exact ⟨_, q, oe⟩
    obtain ⟨ej', qj', oj'⟩ := back qj oj
    obtain ⟨ek', qk', ok'⟩ := back qk ok
    exact c.dis j k ej' ek' a hjk qj' qk' oj' ok'
/-- the def's own list becomes pure -/
theorem Cfg.frz {G0 : Hp} {σ : L2.St} {ρ : DEnv} {i : Nat} {ds : List D} (c : Cfg K G0 H0 G H σ ρ) (hi : ρ[i]? = some (.ow ds)) : ∃ G', Ex G G' ∧ Cfg K G0 H0 G' H σ (ρ.set i (.pu (.lst ds))) := by
  obtain ⟨p, hp, ws, e2, e3, e4, e5⟩ := c.slot i _ hi
  refine ⟨upd G p (.lst ws), Ex.new e3, ?_⟩
  have gG : Ex (upd G p (.lst ws)) H := fun a u q => by
    by_cases z : a = p
    · subst z
      rw [upd_same] at q
      rw [← q]
      exact e2
    · rw [upd_ne z] at q
      exact c.sub a u q
  refine ⟨⟨c.wd.1.trans (Ex.new e3), c.wd.2.1, gG, fun a ha ga => ?_⟩, by rw [List.length_set]; exact c.len, fun j e q => ?_, fun j k ej ek a hjk qj qk oj ok => ?_⟩
  · have z : a ≠ p := fun z => ha (by rw [z]; exact e4)
    rw [upd_ne z]
    exact c.wd.2.2.2 a ha ga
  · rcases getElem?_set_some q with ⟨rfl, rfl, hl⟩ | ⟨hj, q⟩
    · exact ⟨.ref p, hp, .lst (.inl (.inl upd_same)) (e5.mono (Ex.new e3))⟩
    · have s := c.slot j e q
      cases e with
      | un => trivial
      | pu d =>
        obtain ⟨v, h1, h2⟩ := s
        exact ⟨v, h1, h2.mono (Ex.new e3)⟩
      | ow es =>
        obtain ⟨b, h1, ws', h2, h3, h4, h5⟩ := s
        have nb : b ≠ p := fun z => by
          subst z
          exact c.dis i j _ _ b (Ne.symm hj) hi q rfl rfl hp h1
        exact ⟨b, h1, ws', h2, by rw [upd_ne nb]; exact h3, h4, h5.mono (Ex.new e3)⟩
      | od P w es =>
        obtain ⟨b, h1, ws', h2, h3, h4, h5⟩ := s
        have nb : b ≠ p := fun z => by
          subst z
          exact c.dis i j _ _ b (Ne.symm hj) hi q rfl rfl hp h1
        exact ⟨b, h1, ws', h2, by rw [upd_ne nb]; exact h3, h4, Paired.mapP h5 fun _ _ z => z.mono (Ex.new e3)⟩
  · rcases getElem?_set_some qj with ⟨rfl, rfl, hl⟩ | ⟨hj, qj⟩
    · cases oj
    · rcases getElem?_set_some qk with ⟨rfl, rfl, hl⟩ | ⟨hk, qk⟩
      · cases ok
      · exact c.dis j k ej ek a hjk qj qk oj ok
end
end DD

set_option Elab.async false
set_option linter.all false
set_option maxRecDepth 100000
set_option maxHeartbeats 4000000
/-! DD2: the judgements over data, and the rules that hold of the readings. -/
namespace DD
open PySem L2 Evl

section
variable (K : PySem.W.Frag)
def EvD (te : TE) (ρ : DEnv) (d : D) : Prop := ∀ G0 H0 G H σ, Cfg K G0 H0 G H σ ρ → ∀ Q : VK, (∀ v G' H', Wd G H G' H' → Rp K G' v d → Q v H') → te σ H Q
def EvB (tt : TT) (ρ : DEnv) (b : Bool) : Prop := ∀ G0 H0 G H σ, Cfg K G0 H0 G H σ ρ → ∀ Q : Bool → Hp → Prop, (∀ G' H', Wd G H G' H' → Q b H') → tt σ H Q
def EvA (ta : TA) (ρ : DEnv) (ds : List D) : Prop := ∀ G0 H0 G H σ, Cfg K G0 H0 G H σ ρ → ∀ Q : List V → Hp → Prop, (∀ vs G' H', Wd G H G' H' → Rps K G' vs ds → Q vs H') → ta σ H Q
def EvO (to : TO) (ρ : DEnv) (o : Option Int) : Prop := ∀ G0 H0 G H σ, Cfg K G0 H0 G H σ ρ → ∀ Q : Option Int → Hp → Prop, (∀ G' H', Wd G H G' H' → Q o H') → to σ H Q
/-- a new list -/
def EvF (te : TE) (ρ : DEnv) (ds : List D) : Prop := ∀ G0 H0 G H σ, Cfg K G0 H0 G H σ ρ → ∀ Q : VK,
  (∀ p vs G' H', Wd G H G' H' → H p = none → G' p = none → H' p = some (.lst vs) → Rps K G' vs ds → Q (.ref p) H') → te σ H Q

abbrev ME := DEnv → Option D
abbrev MT := DEnv → Option Bool
abbrev MA := DEnv → Option (List D)
abbrev MO := DEnv → Option (Option Int)
def EM (te : TE) (m : ME) : Prop := ∀ ρ d, m ρ = some d → EvD K te ρ d
def TM (tt : TT) (m : MT) : Prop := ∀ ρ b, m ρ = some b → EvB K tt ρ b
def AM (ta : TA) (m : MA) : Prop := ∀ ρ ds, m ρ = some ds → EvA K ta ρ ds
def OM (to : TO) (m : MO) : Prop := ∀ ρ o, m ρ = some o → EvO K to ρ o
def FM (te : TE) (m : MA) : Prop := ∀ ρ ds, m ρ = some ds → EvF K te ρ ds

/-- an operation on values, a call on values, a method, a slice -/
def R2M (r : R2) (f : D → D → Option D) : Prop := ∀ x y a b d G H, Ex G H → Rp K G x a → Rp K G y b → f a b = some d → ∀ Q : VK, (∀ v G' H', Wd G H G' H' → Rp K G' v d → Q v H') → r x y H Q
def R1M (r : V → Hp → VK → Prop) (f : D → Option D) : Prop := ∀ x a d G H, Ex G H → Rp K G x a → f a = some d → ∀ Q : VK, (∀ v G' H', Wd G H G' H' → Rp K G' v d → Q v H') → r x H Q
def RCM (r : List V → Hp → VK → Prop) (f : List D → Option D) : Prop := ∀ xs as d G H, Ex G H → Rps K G xs as → f as = some d → ∀ Q : VK, (∀ v G' H', Wd G H G' H' → Rp K G' v d → Q v H') → r xs H Q
def RMM (T : String) (r : V → List V → Hp → VK → Prop) (f : D → List D → Option D) : Prop := ∀ x xs a as d, f a as = some d →
  (∀ G H, Ex G H → Rp K G x a → tyV K T x H) ∧ ∀ G H, Ex G H → Rp K G x a → Rps K G xs as → ∀ Q : VK, (∀ v G' H', Wd G H G' H' → Rp K G' v d → Q v H') → r x xs H Q
def RSM (r : V → Option Int → Option Int → Hp → VK → Prop) (f : D → Option Int → Option Int → Option D) : Prop := ∀ x a lo hi d G H, Ex G H → Rp K G x a → f a lo hi = some d → ∀ Q : VK, (∀ v G' H', Wd G H G' H' → Rp K G' v d → Q v H') → r x lo hi H Q
end

section
variable {K : PySem.W.Frag} {ta tb te : TE} {tt tu : TT} {tl : TA} {to th : TO} {ma mb me : ME} {mt mu : MT} {ml : MA} {mo mh : MO}
def mVar (i : Nat) : ME := fun ρ => match ρ[i]? with
  | some (.pu d) => some d
  | _ => none
def mC (v : V) : ME := fun _ => some (.val v)
def mK (d : D) : ME := fun _ => some d
theorem em_var {i : Nat} : EM K (tVar i) (mVar i) := fun ρ d h G0 H0 G H σ c Q q => by
  unfold mVar at h
  split at h
  · rename_i d' e
    cases h
    obtain ⟨v, h1, h2⟩ := c.slot i _ e
    exact ⟨v, h1, q v G H (Wd.refl c.sub) h2⟩
  · cases h
theorem em_c {v : V} : EM K (tC v) (mC v) := fun ρ d h G0 H0 G H σ c Q q => by
  cases h
  exact q v G H (Wd.refl c.sub) (.val v)
/-- a value of the module that represents d in every heap -/
theorem em_k {v : V} {d : D} (h : ∀ G, Rp K G v d) : EM K (tC v) (mK d) := fun ρ d' e G0 H0 G H σ c Q q => by
  cases e
  exact q v G H (Wd.refl c.sub) (h G)
def mOp (f : D → D → Option D) (ma mb : ME) : ME := fun ρ => (ma ρ).bind fun a => (mb ρ).bind fun b => f a b
theorem em_op {r : R2} {f : D → D → Option D} (hr : R2M K r f) (ha : EM K ta ma) (hb : EM K tb mb) : EM K (tOp r ta tb) (mOp f ma mb) := fun ρ d h G0 H0 G H σ c Q q => by
  obtain ⟨a, e1, h⟩ := Option.bind_eq_some_iff.mp h
  obtain ⟨b, e2, h⟩ := Option.bind_eq_some_iff.mp h
  refine ha ρ a e1 G0 H0 G H σ c _ fun x G1 H1 w1 r1 => ?_
  refine hb ρ b e2 G0 H0 G1 H1 σ (c.mono w1) _ fun y G2 H2 w2 r2 => ?_
  exact hr x y a b d G2 H2 w2.s (r1.mono w2.g) r2 h Q fun v G3 H3 w3 r3 => q v G3 H3 ((w1.trans w2).trans w3) r3
def mUn (f : D → Option D) (ma : ME) : ME := fun ρ => (ma ρ).bind f
theorem em_un {r : V → Hp → VK → Prop} {f : D → Option D} (hr : R1M K r f) (ha : EM K ta ma) : EM K (tUn r ta) (mUn f ma) := fun ρ d h G0 H0 G H σ c Q q => by
  obtain ⟨a, e1, h⟩ := Option.bind_eq_some_iff.mp h
  refine ha ρ a e1 G0 H0 G H σ c _ fun x G1 H1 w1 r1 => ?_
  exact hr x a d G1 H1 w1.s r1 h Q fun v G3 H3 w3 r3 => q v G3 H3 (w1.trans w3) r3
/-- tests -/
def asB : D → Option Bool
  | .val (.bl b) => some b
  | _ => none
theorem asB_bl {d : D} {b : Bool} (h : asB d = some b) : d = .val (.bl b) := by
  unfold asB at h
  split at h
  · cases h; rfl
  · cases h
def mTest (m : ME) : MT := fun ρ => (m ρ).bind asB
theorem tm_test (h : EM K te me) : TM K (tTest te) (mTest me) := fun ρ b e G0 H0 G H σ c Q q => by
  obtain ⟨d, e1, e⟩ := Option.bind_eq_some_iff.mp e
  cases asB_bl e
  refine h ρ _ e1 G0 H0 G H σ c _ fun v G1 H1 w r => ?_
  cases r
  exact ⟨b, rfl, q G1 H1 w⟩
theorem tm_B (h : EM K te me) : TM K (tB te) (mTest me) := fun ρ b e G0 H0 G H σ c Q q => by
  obtain ⟨d, e1, e⟩ := Option.bind_eq_some_iff.mp e
  cases asB_bl e
  refine h ρ _ e1 G0 H0 G H σ c _ fun v G1 H1 w r => ?_
  cases r
  exact ⟨b, rfl, q G1 H1 w⟩
def mAnd (a b : MT) : MT := fun ρ => (a ρ).bind fun x => if x = true then b ρ else some false
def mOr (a b : MT) : MT := fun ρ => (a ρ).bind fun x => if x = true then some true else b ρ
def mNot (a : MT) : MT := fun ρ => (a ρ).map (!·)
theorem tm_and (h1 : TM K tt mt) (h2 : TM K tu mu) : TM K (tAnd tt tu) (mAnd mt mu) := fun ρ b e G0 H0 G H σ c Q q => by
  obtain ⟨x, e1, e⟩ := Option.bind_eq_some_iff.mp e
  refine h1 ρ x e1 G0 H0 G H σ c _ fun G1 H1 w => ?_
  cases x with
  | true => exact iteT (h2 ρ b e G0 H0 G1 H1 σ (c.mono w) Q fun G2 H2 w2 => q G2 H2 (w.trans w2))
  | false =>
    cases e
    exact iteF (q G1 H1 w)
theorem tm_or (h1 : TM K tt mt) (h2 : TM K tu mu) : TM K (tOr tt tu) (mOr mt mu) := fun ρ b e G0 H0 G H σ c Q q => by
  obtain ⟨x, e1, e⟩ := Option.bind_eq_some_iff.mp e
  refine h1 ρ x e1 G0 H0 G H σ c _ fun G1 H1 w => ?_
  cases x with
  | false => exact iteF (h2 ρ b e G0 H0 G1 H1 σ (c.mono w) Q fun G2 H2 w2 => q G2 H2 (w.trans w2))
  | true =>
    cases e
    exact iteT (q G1 H1 w)
theorem tm_not (h1 : TM K tt mt) : TM K (tNot tt) (mNot mt) := fun ρ b e G0 H0 G H σ c Q q => by
  obtain ⟨x, e1, e⟩ := Option.map_eq_some_iff.mp e
  subst e
  exact h1 ρ x e1 G0 H0 G H σ c _ fun G1 H1 w => q G1 H1 w
/-- and, or, not of bools as values -/
def mAndV (a b : ME) : ME := fun ρ => (mTest a ρ).bind fun x => if x = true then b ρ else some (.val (.bl false))
def mOrV (a b : ME) : ME := fun ρ => (mTest a ρ).bind fun x => if x = true then some (.val (.bl true)) else b ρ
def mNotV (a : ME) : ME := fun ρ => (mTest a ρ).map fun x => .val (.bl (!x))
theorem em_andV (h1 : EM K ta ma) (h2 : EM K tb mb) : EM K (tAndV ta tb) (mAndV ma mb) := fun ρ d e G0 H0 G H σ c Q q => by
  obtain ⟨x, e1, e⟩ := Option.bind_eq_some_iff.mp e
  obtain ⟨d1, e0, e1⟩ := Option.bind_eq_some_iff.mp e1
  cases asB_bl e1
  refine h1 ρ _ e0 G0 H0 G H σ c _ fun v G1 H1 w r => ?_
  cases r
  refine ⟨x, rfl, ?_⟩
  cases x with
  | true => exact iteT (h2 ρ d e G0 H0 G1 H1 σ (c.mono w) Q fun v G2 H2 w2 r2 => q v G2 H2 (w.trans w2) r2)
  | false =>
    cases e
    exact iteF (q _ G1 H1 w (.val _))
theorem em_orV (h1 : EM K ta ma) (h2 : EM K tb mb) : EM K (tOrV ta tb) (mOrV ma mb) := fun ρ d e G0 H0 G H σ c Q q => by
  obtain ⟨x, e1, e⟩ := Option.bind_eq_some_iff.mp e
  obtain ⟨d1, e0, e1⟩ := Option.bind_eq_some_iff.mp e1
  cases asB_bl e1
  refine h1 ρ _ e0 G0 H0 G H σ c _ fun v G1 H1 w r => ?_
  cases r
  refine ⟨x, rfl, ?_⟩
  cases x with
  | false => exact iteF (h2 ρ d e G0 H0 G1 H1 σ (c.mono w) Q fun v G2 H2 w2 r2 => q v G2 H2 (w.trans w2) r2)
  | true =>
    cases e
    exact iteT (q _ G1 H1 w (.val _))
theorem em_notV (h1 : EM K ta ma) : EM K (tNotV ta) (mNotV ma) := fun ρ d e G0 H0 G H σ c Q q => by
  obtain ⟨x, e1, e⟩ := Option.map_eq_some_iff.mp e
  subst e
  obtain ⟨d1, e0, e1⟩ := Option.bind_eq_some_iff.mp e1
  cases asB_bl e1
  refine h1 ρ _ e0 G0 H0 G H σ c _ fun v G1 H1 w r => ?_
  cases r
  exact ⟨x, rfl, q _ G1 H1 w (.val _)⟩
def mIf (t : MT) (a b : ME) : ME := fun ρ => (t ρ).bind fun x => if x = true then a ρ else b ρ
theorem em_if (h : TM K tt mt) (h1 : EM K ta ma) (h2 : EM K tb mb) : EM K (tIf tt ta tb) (mIf mt ma mb) := fun ρ d e G0 H0 G H σ c Q q => by
  obtain ⟨x, e1, e⟩ := Option.bind_eq_some_iff.mp e
  refine h ρ x e1 G0 H0 G H σ c _ fun G1 H1 w => ?_
  cases x with
  | true => exact iteT (h1 ρ d e G0 H0 G1 H1 σ (c.mono w) Q fun v G2 H2 w2 r2 => q v G2 H2 (w.trans w2) r2)
  | false => exact iteF (h2 ρ d e G0 H0 G1 H1 σ (c.mono w) Q fun v G2 H2 w2 r2 => q v G2 H2 (w.trans w2) r2)
/-- a < b < c -/
def mChain (f g : D → D → Option D) (ma mb mc : ME) : ME := fun ρ => (ma ρ).bind fun a => (mb ρ).bind fun b => ((f a b).bind asB).bind fun x => if x = true then (mc ρ).bind fun c => g b c else some (.val (.bl false))
theorem em_chain {r r' : R2} {tc : TE} {mc : ME} {f g : D → D → Option D} (hr : R2M K r f) (hr' : R2M K r' g) (ha : EM K ta ma) (hb : EM K tb mb) (hc : EM K tc mc) : EM K (tChain r r' ta tb tc) (mChain f g ma mb mc) := fun ρ d h G0 H0 G H σ c Q q => by
  obtain ⟨a, e1, h⟩ := Option.bind_eq_some_iff.mp h
  obtain ⟨b, e2, h⟩ := Option.bind_eq_some_iff.mp h
  obtain ⟨x, e3, h⟩ := Option.bind_eq_some_iff.mp h
  obtain ⟨z, e4, e3⟩ := Option.bind_eq_some_iff.mp e3
  cases asB_bl e3
  refine ha ρ a e1 G0 H0 G H σ c _ fun v G1 H1 w1 r1 => ?_
  refine hb ρ b e2 G0 H0 G1 H1 σ (c.mono w1) _ fun u G2 H2 w2 r2 => ?_
  refine hr v u a b _ G2 H2 w2.s (r1.mono w2.g) r2 e4 _ fun k G3 H3 w3 r3 => ?_
  cases r3
  refine ⟨x, rfl, ?_⟩
  have w13 := (w1.trans w2).trans w3
  cases x with
  | true =>
    obtain ⟨cc, e5, h⟩ := Option.bind_eq_some_iff.mp h
    refine iteT (hc ρ cc e5 G0 H0 G3 H3 σ (c.mono w13) _ fun y G4 H4 w4 r4 => ?_)
    exact hr' u y b cc d G4 H4 w4.s (r2.mono (w3.g.trans w4.g)) r4 h Q fun v G5 H5 w5 r5 => q v G5 H5 ((w13.trans w4).trans w5) r5
  | false =>
    cases h
    exact iteF (q _ G3 H3 w13 (.val _))
/-- arguments -/
def mNil : MA := fun _ => some []
def mCons (m : ME) (r : MA) : MA := fun ρ => (m ρ).bind fun d => (r ρ).map (d :: ·)
theorem am_nil : AM K tNil mNil := fun ρ ds h G0 H0 G H σ c Q q => by
  cases h
  exact q [] G H (Wd.refl c.sub) .nil
theorem am_cons (h1 : EM K te me) (h2 : AM K tl ml) : AM K (tCons te tl) (mCons me ml) := fun ρ ds h G0 H0 G H σ c Q q => by
  obtain ⟨d, e1, h⟩ := Option.bind_eq_some_iff.mp h
  obtain ⟨r, e2, h⟩ := Option.map_eq_some_iff.mp h
  subst h
  refine h1 ρ d e1 G0 H0 G H σ c _ fun x G1 H1 w1 r1 => ?_
  exact h2 ρ r e2 G0 H0 G1 H1 σ (c.mono w1) _ fun xs G2 H2 w2 r2 => q _ G2 H2 (w1.trans w2) (.cons (r1.mono w2.g) r2)
def mCall (f : List D → Option D) (m : MA) : ME := fun ρ => (m ρ).bind f
theorem em_cb {r : List V → Hp → VK → Prop} {f : List D → Option D} (hr : RCM K r f) (h : AM K tl ml) : EM K (tCB r tl) (mCall f ml) := fun ρ d e G0 H0 G H σ c Q q => by
  obtain ⟨as, e1, e⟩ := Option.bind_eq_some_iff.mp e
  refine h ρ as e1 G0 H0 G H σ c _ fun vs G1 H1 w1 r1 => ?_
  exact hr vs as d G1 H1 w1.s r1 e Q fun v G2 H2 w2 r2 => q v G2 H2 (w1.trans w2) r2
/-- a method of a built-in type -/
def mMeth (f : D → List D → Option D) (mo : ME) (m : MA) : ME := fun ρ => (mo ρ).bind fun a => (m ρ).bind fun as => f a as
theorem em_bm {T : String} {r : V → List V → Hp → VK → Prop} {f : D → List D → Option D} (hr : RMM K T r f) (ho : EM K ta ma) (h : AM K tl ml) : EM K (tBM K T r ta tl) (mMeth f ma ml) := fun ρ d e G0 H0 G H σ c Q q => by
  obtain ⟨a, e1, e⟩ := Option.bind_eq_some_iff.mp e
  obtain ⟨as, e2, e⟩ := Option.bind_eq_some_iff.mp e
  refine ho ρ a e1 G0 H0 G H σ c _ fun x G1 H1 w1 r1 => ?_
  refine ⟨?_, h ρ as e2 G0 H0 G1 H1 σ (c.mono w1) _ fun xs G2 H2 w2 r2 => ?_⟩
  · exact (hr x [] a as d e).1 G1 H1 w1.s r1
  · exact (hr x xs a as d e).2 G2 H2 w2.s (r1.mono w2.g) r2 Q fun v G3 H3 w3 r3 => q v G3 H3 ((w1.trans w2).trans w3) r3
theorem em_bm0 {T : String} {r : V → List V → Hp → VK → Prop} {f : D → List D → Option D} (hr : RMM K T r f) (ho : EM K ta ma) : EM K (tBM0 K T r ta) (mMeth f ma mNil) := fun ρ d e G0 H0 G H σ c Q q => by
  obtain ⟨a, e1, e⟩ := Option.bind_eq_some_iff.mp e
  obtain ⟨as, e2, e⟩ := Option.bind_eq_some_iff.mp e
  cases e2
  refine ho ρ a e1 G0 H0 G H σ c _ fun x G1 H1 w1 r1 => ?_
  exact ⟨(hr x [] a [] d e).1 G1 H1 w1.s r1, (hr x [] a [] d e).2 G1 H1 w1.s r1 .nil Q fun v G3 H3 w3 r3 => q v G3 H3 (w1.trans w3) r3⟩
/-- slices -/
def asI : D → Option Int
  | .val (.int i) => some i
  | _ => none
theorem asI_int {d : D} {i : Int} (h : asI d = some i) : d = .val (.int i) := by
  unfold asI at h
  split at h
  · cases h; rfl
  · cases h
def mNoPart : MO := fun _ => some none
def mPart (m : ME) : MO := fun ρ => ((m ρ).bind asI).map some
theorem om_none : OM K tNoPart mNoPart := fun ρ o h G0 H0 G H σ c Q q => by
  cases h
  exact q G H (Wd.refl c.sub)
theorem om_some (h : EM K te me) : OM K (tPart te) (mPart me) := fun ρ o e G0 H0 G H σ c Q q => by
  obtain ⟨i, e1, e⟩ := Option.map_eq_some_iff.mp e
  subst e
  obtain ⟨d, e0, e1⟩ := Option.bind_eq_some_iff.mp e1
  cases asI_int e1
  refine h ρ _ e0 G0 H0 G H σ c _ fun v G1 H1 w r => ?_
  cases r
  exact ⟨i, rfl, q G1 H1 w⟩
def mSl (f : D → Option Int → Option Int → Option D) (m : ME) (lo hi : MO) : ME := fun ρ => (m ρ).bind fun a => (lo ρ).bind fun l => (hi ρ).bind fun u => f a l u
theorem em_sl {r : V → Option Int → Option Int → Hp → VK → Prop} {f : D → Option Int → Option Int → Option D} (hr : RSM K r f) (he : EM K te me) (hl : OM K to mo) (hu : OM K th mh) : EM K (tSl r te to th) (mSl f me mo mh) := fun ρ d h G0 H0 G H σ c Q q => by
  obtain ⟨a, e1, h⟩ := Option.bind_eq_some_iff.mp h
  obtain ⟨l, e2, h⟩ := Option.bind_eq_some_iff.mp h
  obtain ⟨u, e3, h⟩ := Option.bind_eq_some_iff.mp h
  refine he ρ a e1 G0 H0 G H σ c _ fun x G1 H1 w1 r1 => ?_
  refine hl ρ l e2 G0 H0 G1 H1 σ (c.mono w1) _ fun G2 H2 w2 => ?_
  refine hu ρ u e3 G0 H0 G2 H2 σ (c.mono (w1.trans w2)) _ fun G3 H3 w3 => ?_
  exact hr x a l u d G3 H3 w3.s (r1.mono (w2.g.trans w3.g)) h Q fun v G4 H4 w4 r4 => q v G4 H4 (((w1.trans w2).trans w3).trans w4) r4
/-- new lists and tuples -/
theorem em_fresh {m : MA} (h : FM K te m) : EM K te (fun ρ => (m ρ).map .lst) := fun ρ d e G0 H0 G H σ c Q q => by
  obtain ⟨ds, e1, e⟩ := Option.map_eq_some_iff.mp e
  subst e
  refine h ρ ds e1 G0 H0 G H σ c Q fun p vs G' H' w hp gp hh r => ?_
  refine q _ (upd G' p (.lst vs)) H' ⟨w.g.trans (Ex.new gp), w.h, fun a u z => ?_, fun a ha ga => ?_⟩ (.lst (.inl (.inl upd_same)) (r.mono (Ex.new gp)))
  · by_cases y : a = p
    · subst y
      rw [upd_same] at z
      rw [← z]
      exact hh
    · rw [upd_ne y] at z
      exact w.s a u z
  · by_cases y : a = p
    · subst y
      exact absurd hp ha
    · rw [upd_ne y]
      exact w.c a ha ga
def few (m : MA) : MA := fun ρ => (m ρ).bind fun ds => if ds.length ≤ 16777216 then some ds else none
theorem few_le {m : MA} {ρ : DEnv} {ds : List D} (h : few m ρ = some ds) : m ρ = some ds ∧ ds.length ≤ sizeLine := by
  obtain ⟨x, e1, e⟩ := Option.bind_eq_some_iff.mp h
  split at e
  · cases e
    exact ⟨e1, by rw [sizeLine_eq]; assumption⟩
  · cases e
theorem fm_lst (h : AM K tl ml) : FM K (tLst tl) (few ml) := fun ρ ds e G0 H0 G H σ c Q q => by
  obtain ⟨e, hz⟩ := few_le e
  refine h ρ ds e G0 H0 G H σ c _ fun vs G1 H1 w r => ⟨by rw [r.length]; exact hz, fun p hp => ?_⟩
  have w2 := Wd.newH (o := .lst vs) w.s hp
  exact q p vs G1 _ (w.trans w2) (fresh_back w.h hp) (fresh_back w.s hp) upd_same r
theorem em_tup (h : AM K tl ml) : EM K (tTup tl) (fun ρ => (few ml ρ).map .tup) := fun ρ d e G0 H0 G H σ c Q q => by
  obtain ⟨ds, e1, e⟩ := Option.map_eq_some_iff.mp e
  subst e
  obtain ⟨e1, hz⟩ := few_le e1
  refine h ρ ds e1 G0 H0 G H σ c _ fun vs G1 H1 w r => ⟨by rw [r.length]; exact hz, fun p hp => ?_⟩
  have w2 := Wd.new (o := .tup vs) w.s hp
  exact q _ _ _ (w.trans w2) (.tup (.inl (.inl upd_same)) (r.mono w2.g))
end
end DD

set_option Elab.async false
set_option linter.all false
set_option maxRecDepth 100000
set_option maxHeartbeats 4000000
/-! DD3: the operations over data, each with its rule. -/
namespace DD
open PySem L2 Evl

abbrev D.int (i : Int) : D := .val (.int i)
abbrev D.str (z : Str) : D := .val (.str z)
abbrev D.bl (b : Bool) : D := .val (.bl b)
abbrev D.non : D := .val .non
abbrev D.ref (a : Addr) : D := .val (.ref a)
def big : Nat := 16777216
theorem big_line {n : Nat} (h : n ≤ big) : n ≤ sizeLine := by rw [sizeLine_eq]; exact h

section
variable {K : PySem.W.Frag} {G H : Hp}
theorem rp_lst {v : V} {ds : List D} (h : Rp K G v (.lst ds)) : ∃ a vs, v = .ref a ∧ SqL K G a vs ∧ Rps K G vs ds := by
  cases h with
  | lst h r => exact ⟨_, _, rfl, h, r⟩
theorem rp_tup {v : V} {ds : List D} (h : Rp K G v (.tup ds)) : ∃ a vs, v = .ref a ∧ SqT K G a vs ∧ Rps K G vs ds := by
  cases h with
  | tup h r => exact ⟨_, _, rfl, h, r⟩
theorem rp_val {v w : V} (h : Rp K G v (.val w)) : v = w := by cases h; rfl
/-- a new list, a new tuple, as the value of a reading -/
theorem new_lst {Q : VK} {d : List D} {vs : List V} (e : Ex G H) (r : Rps K G vs d) (q : ∀ v G' H', Wd G H G' H' → Rp K G' v (.lst d) → Q v H') : ∀ p, H p = none → Q (.ref p) (upd H p (.lst vs)) := fun p hp => by
  have w := Wd.new (o := .lst vs) e hp
  exact q _ _ _ w (.lst (.inl (.inl upd_same)) (r.mono w.g))
theorem new_tup {Q : VK} {d : List D} {vs : List V} (e : Ex G H) (r : Rps K G vs d) (q : ∀ v G' H', Wd G H G' H' → Rp K G' v (.tup d) → Q v H') : ∀ p, H p = none → Q (.ref p) (upd H p (.tup vs)) := fun p hp => by
  have w := Wd.new (o := .tup vs) e hp
  exact q _ _ _ w (.tup (.inl (.inl upd_same)) (r.mono w.g))

/-! ### lists put together: any two that are read -/
def rCatR (K : PySem.W.Frag) : R2 := fun x y H Q => ∃ l b xs zs, x = .ref l ∧ y = .ref b ∧ SqL K H l xs ∧ SqL K H b zs ∧ xs.length + zs.length ≤ sizeLine ∧ ∀ p, H p = none → Q (.ref p) (upd H p (.lst (xs ++ zs)))
theorem op_catR {X : Cx} : OpR X (binaryOp .Add) (rCatR X.K) := by
  intro pins s σ H x y v u Q I rx ry h
  obtain ⟨l, b, xs, zs, rfl, rfl, hH, hB, hz, q⟩ := h
  cases rx
  cases ry
  obtain ⟨its, r, ⟨o, n, ho, hc, hd, hs⟩, _⟩ := I.list hH
  obtain ⟨its2, r2, ⟨o2, n2, ho2, hc2, hd2, hs2⟩, _⟩ := I.list hB
  have l1 := r.length
  have l2 := r2.length
  obtain ⟨oc, od, odt, osl⟩ := o
  obtain ⟨oc2, od2, odt2, osl2⟩ := o2
  simp only at hc hd hs hc2 hd2 hs2
  subst hc hd hs hc2 hd2 hs2
  have e : its.toArray ++ its2.toArray = (its ++ its2).toArray := by simp
  refine PySem.concat_meets ⟨_, ho, rfl⟩ ⟨_, ho2, rfl⟩ noFill_list_add seq_list_add PySem.F.slot_list_add PySem.F.entry_list_add (PySem.F.args_list_add_2 _ _)
    (PyProof.Rows.list_addW l b its.toArray its2.toArray n n2 none none osl osl2 (by simp; omega)) ⟨ho, ho2, ?_⟩
  rw [e]
  exact ⟨.ref _, _, I.lnew (t' := s.toks) (r.append r2) (by rw [List.length_append]; omega), rfl, q _ I.fresh⟩

/-! ### + - * // % ** -/
def addD : D → D → Option D
  | .val (.int i), .val (.int j) => some (.int (i + j))
  | .val (.str x), .val (.str y) => if x.length + y.length ≤ big then some (.str (x ++ y)) else none
  | .lst xs, .lst ys => if xs.length + ys.length ≤ big then some (.lst (xs ++ ys)) else none
  | .tup xs, .tup ys => if xs.length + ys.length ≤ big then some (.tup (xs ++ ys)) else none
  | _, _ => none
def rAddD (K : PySem.W.Frag) : R2 := fun x y H Q => (∃ i j, x = .int i ∧ y = .int j ∧ Q (.int (i + j)) H) ∨ (∃ i j, x = .str i ∧ y = .str j ∧ i.length + j.length ≤ sizeLine ∧ Q (.str (i ++ j)) H) ∨ rCatR K x y H Q ∨ rCatA K x y H Q
theorem op_addD {X : Cx} : OpR X (binaryOp .Add) (rAddD X.K) := op_add.or (op_add_str.or (op_catR.or op_catA))
theorem r2_add : R2M K (rAddD K) addD := fun x y a b d G H e ra rb h Q q => by
  unfold addD at h
  split at h
  · cases h
    cases rp_val ra
    cases rp_val rb
    exact .inl ⟨_, _, rfl, rfl, q _ G H (Wd.refl e) (.val _)⟩
  · split at h
    · cases h
      cases rp_val ra
      cases rp_val rb
      exact .inr (.inl ⟨_, _, rfl, rfl, big_line (by assumption), q _ G H (Wd.refl e) (.val _)⟩)
    · cases h
  · split at h
    · cases h
      obtain ⟨p, vs, rfl, h1, r1⟩ := rp_lst ra
      obtain ⟨p2, ws, rfl, h2, r2⟩ := rp_lst rb
      refine .inr (.inr (.inl ⟨p, p2, vs, ws, rfl, rfl, ex_l e h1, ex_l e h2, ?_, new_lst e (r1.append r2) q⟩))
      rw [r1.length, r2.length]
      exact big_line (by assumption)
    · cases h
  · split at h
    · cases h
      obtain ⟨p, vs, rfl, h1, r1⟩ := rp_tup ra
      obtain ⟨p2, ws, rfl, h2, r2⟩ := rp_tup rb
      refine .inr (.inr (.inr ⟨p, p2, vs, ws, rfl, rfl, ex_t e h1, ex_t e h2, ?_, fun z => ?_, fun _ z => ?_, fun _ _ => new_tup e (r1.append r2) q⟩))
      · rw [r1.length, r2.length]
        exact big_line (by assumption)
      · subst z
        cases r1
        exact q _ G H (Wd.refl e) (.tup h2 r2)
      · subst z
        cases r2
        rw [List.append_nil] at q
        exact q _ G H (Wd.refl e) (.tup h1 r1)
    · cases h
  · cases h
def intD (c : Int → Int → Bool) (f : Int → Int → V) : D → D → Option D
  | .val (.int i), .val (.int j) => if c i j = true then some (.val (f i j)) else none
  | _, _ => none
theorem r2_int {C : Int → Int → Prop} {c : Int → Int → Bool} {f : Int → Int → V} (hc : ∀ i j, c i j = true → C i j) : R2M K (rI C f) (intD c f) := fun x y a b d G H e ra rb h Q q => by
  unfold intD at h
  split at h
  · split at h
    · cases h
      cases rp_val ra
      cases rp_val rb
      exact ⟨_, _, rfl, rfl, hc _ _ (by assumption), q _ G H (Wd.refl e) (.val _)⟩
    · cases h
  · cases h
def int0D (f : Int → Int → V) : D → D → Option D
  | .val (.int i), .val (.int j) => some (.val (f i j))
  | _, _ => none
theorem r2_int0 {f : Int → Int → V} : R2M K (rI0 f) (int0D f) := fun x y a b d G H e ra rb h Q q => by
  unfold int0D at h
  split at h
  · cases h
    cases rp_val ra
    cases rp_val rb
    exact ⟨_, _, rfl, rfl, q _ G H (Wd.refl e) (.val _)⟩
  · cases h
def subD := int0D fun i j => .int (i - j)
def mulC (i j : Int) : Bool := decide ((-(2 ^ 64) < i ∧ i < 2 ^ 64) ∨ (-(2 ^ 64) < j ∧ j < 2 ^ 64))
def mulD := intD mulC fun i j => .int (i * j)
def fdivC (_ j : Int) : Bool := decide (0 < j ∧ j < 1073741824)
def fdivD := intD fdivC fun i j => .int (i / j)
def modC (_ j : Int) : Bool := decide (0 < j)
def modD := intD modC fun i j => .int (i % j)
def powC (i j : Int) : Bool := decide (0 ≤ j ∧ j ≤ 1000000 ∧ i.natAbs < 2 ^ 64)
def powD := intD powC fun i j => .int (i ^ j.toNat)
theorem r2_sub : R2M K (rI0 fun i j => .int (i - j)) subD := r2_int0
theorem r2_mul : R2M K (rI CMul fun i j => .int (i * j)) mulD := r2_int fun i j h => by unfold mulC at h; have z := of_decide_eq_true h; exact z
theorem r2_fdiv : R2M K (rI CDiv fun i j => .int (i / j)) fdivD := r2_int fun i j h => by unfold fdivC at h; have z := of_decide_eq_true h; exact z
theorem r2_mod : R2M K (rI (fun _ j => 0 < j) fun i j => .int (i % j)) modD := r2_int fun i j h => by unfold modC at h; have z := of_decide_eq_true h; exact z
theorem r2_pow : R2M K (rI CPow fun i j => .int (i ^ j.toNat)) powD := r2_int fun i j h => by unfold powC at h; have z := of_decide_eq_true h; exact z
def negD : D → Option D
  | .val (.int i) => some (.int (-i))
  | _ => none
theorem r1_neg : R1M K (rU fun i => .int (-i)) negD := fun x a d G H e ra h Q q => by
  unfold negD at h
  split at h
  · cases h
    cases rp_val ra
    exact ⟨_, rfl, q _ G H (Wd.refl e) (.val _)⟩
  · cases h

/-! ### data as the library's data -/
def pdV : V → Option PyData
  | .non => some .none
  | .bl b => some (.bool b)
  | .int i => some (.int i)
  | .str x => some (.str x)
  | _ => none
mutual
def pd : D → Option PyData
  | .val v => pdV v
  | .lst ds => (pds ds).map .list
  | .tup ds => (pds ds).map .tuple
def pds : List D → Option (List PyData)
  | [] => some []
  | d :: ds => (pd d).bind fun p => (pds ds).map (p :: ·)
end
mutual
theorem dp_of : ∀ (d : D) {v : V} {p : PyData}, Rp K G v d → pd d = some p → Dp K G v p
  | .val w, v, p, r, h => by
    cases r
    cases w <;> simp only [pd, pdV, Option.some.injEq, reduceCtorEq] at h <;> subst h <;> constructor
  | .lst ds, v, p, r, h => by
    simp only [pd, Option.map_eq_some_iff] at h
    obtain ⟨ps, h, rfl⟩ := h
    cases r with
    | lst a b => exact .lst a (dpAll_of ds b h)
  | .tup ds, v, p, r, h => by
    simp only [pd, Option.map_eq_some_iff] at h
    obtain ⟨ps, h, rfl⟩ := h
    cases r with
    | tup a b => exact .tup a (dpAll_of ds b h)
theorem dpAll_of : ∀ (ds : List D) {vs : List V} {ps : List PyData}, Rps K G vs ds → pds ds = some ps → DpAll K G vs ps
  | [], vs, ps, r, h => by
    cases r
    simp only [pds, Option.some.injEq] at h
    subst h
    exact .nil
  | d :: ds, vs, ps, r, h => by
    simp only [pds, Option.bind_eq_some_iff, Option.map_eq_some_iff] at h
    obtain ⟨p, h1, qs, h2, rfl⟩ := h
    cases r with
    | cons a b => exact .cons (dp_of d a h1) (dpAll_of ds b h2)
end
mutual
theorem dp_ex {G' : Hp} (e : Ex G G') : ∀ (p : PyData) {v : V}, Dp K G v p → Dp K G' v p
  | .none, _, h => by cases h; constructor
  | .bool b, _, h => by cases h; constructor
  | .int b, _, h => by cases h; constructor
  | .str b, _, h => by cases h; constructor
  | .list ps, _, h => by
    cases h with
    | lst a b => exact .lst (ex_l e a) (dpAll_ex e ps b)
  | .tuple ps, _, h => by
    cases h with
    | tup a b => exact .tup (ex_t e a) (dpAll_ex e ps b)
  | .dict ps, _, h => by cases h
theorem dpAll_ex {G' : Hp} (e : Ex G G') : ∀ (ps : List PyData) {vs : List V}, DpAll K G vs ps → DpAll K G' vs ps
  | [], _, h => by cases h; constructor
  | p :: ps, _, h => by
    cases h with
    | cons a b => exact .cons (dp_ex e p a) (dpAll_ex e ps b)
end
/-- == and != -/
def scalD : D → D → Option Bool
  | .val v, .val w => if scal v w = true then some (decide (v = w)) else none
  | _, _ => none
def deepD (a b : D) : Option Bool := (pd a).bind fun p => (pd b).bind fun q => if SeqAt.shaped p && SeqAt.shaped q then some (PyData.eqv p q) else none
def sameD (a b : D) : Option Bool := match scalD a b with
  | some k => some k
  | none => deepD a b
def eqD (a b : D) : Option D := (sameD a b).map .bl
def neD (a b : D) : Option D := (sameD a b).map fun k => .bl (!k)
def rEqDD (K : PySem.W.Frag) : R2 := fun x y H Q => rEq x y H Q ∨ rEqD K x y H Q
def rNeDD (K : PySem.W.Frag) : R2 := fun x y H Q => rNe x y H Q ∨ rNeD K x y H Q
theorem op_eqDD {X : Cx} (hu : X.A.units + 64 < cLine) : OpR X (compareOp .Eq) (rEqDD X.K) := op_eq.or (op_eqD hu)
theorem op_neDD {X : Cx} (hu : X.A.units + 64 < cLine) : OpR X (compareOp .NotEq) (rNeDD X.K) := op_ne.or (op_neD hu)
theorem same_cases {a b : D} {k : Bool} (h : sameD a b = some k) : (∃ v w, a = .val v ∧ b = .val w ∧ scal v w = true ∧ k = decide (v = w)) ∨
    ∃ p q, pd a = some p ∧ pd b = some q ∧ SeqAt.shaped p = true ∧ SeqAt.shaped q = true ∧ k = PyData.eqv p q := by
  unfold sameD at h
  split at h
  · rename_i k' e
    cases h
    unfold scalD at e
    split at e
    · split at e
      · cases e
        exact .inl ⟨_, _, rfl, rfl, by assumption, rfl⟩
      · cases e
    · cases e
  · obtain ⟨p, e1, h⟩ := Option.bind_eq_some_iff.mp h
    obtain ⟨q, e2, h⟩ := Option.bind_eq_some_iff.mp h
    split at h
    · rename_i hs
      cases h
      obtain ⟨s1, s2⟩ := Bool.and_eq_true_iff.mp hs
      exact .inr ⟨p, q, e1, e2, s1, s2, rfl⟩
    · cases h
theorem r2_eq : R2M K (rEqDD K) eqD := fun x y a b d G H e ra rb h Q q => by
  obtain ⟨k, hk, rfl⟩ := Option.map_eq_some_iff.mp h
  have fin := q (.bl k) G H (Wd.refl e) (.val _)
  rcases same_cases hk with ⟨v, w, rfl, rfl, hs, rfl⟩ | ⟨p, p2, e1, e2, s1, s2, rfl⟩
  · cases rp_val ra
    cases rp_val rb
    exact .inl ⟨hs, fin⟩
  · exact .inr ⟨p, p2, dp_ex e p (dp_of a ra e1), dp_ex e p2 (dp_of b rb e2), s1, s2, fin⟩
theorem r2_ne : R2M K (rNeDD K) neD := fun x y a b d G H e ra rb h Q q => by
  obtain ⟨k, hk, rfl⟩ := Option.map_eq_some_iff.mp h
  have fin := q (.bl (!k)) G H (Wd.refl e) (.val _)
  rcases same_cases hk with ⟨v, w, rfl, rfl, hs, rfl⟩ | ⟨p, p2, e1, e2, s1, s2, rfl⟩
  · cases rp_val ra
    cases rp_val rb
    exact .inl ⟨hs, fin⟩
  · exact .inr ⟨p, p2, dp_ex e p (dp_of a ra e1), dp_ex e p2 (dp_of b rb e2), s1, s2, fin⟩
/-- is None -/
def isND : D → D → Option D
  | .val v, .val .non => some (.bl (decide (v = .non)))
  | .lst _, .val .non => some (.bl false)
  | .tup _, .val .non => some (.bl false)
  | _, _ => none
def notND : D → D → Option D
  | .val v, .val .non => some (.bl (!decide (v = .non)))
  | .lst _, .val .non => some (.bl true)
  | .tup _, .val .non => some (.bl true)
  | _, _ => none
theorem r2_isN : R2M K (fun x y H Q => y = .non ∧ Q (.bl (decide (x = .non))) H) isND := fun x y a b d G H e ra rb h Q q => by
  unfold isND at h
  split at h
  · cases h
    cases rp_val ra
    cases rp_val rb
    exact ⟨rfl, q _ G H (Wd.refl e) (.val _)⟩
  · cases h
    obtain ⟨p, vs, rfl, _⟩ := rp_lst ra
    cases rp_val rb
    exact ⟨rfl, q _ G H (Wd.refl e) (.val _)⟩
  · cases h
    obtain ⟨p, vs, rfl, _⟩ := rp_tup ra
    cases rp_val rb
    exact ⟨rfl, q _ G H (Wd.refl e) (.val _)⟩
  · cases h
theorem r2_notN : R2M K (fun x y H Q => y = .non ∧ Q (.bl (!decide (x = .non))) H) notND := fun x y a b d G H e ra rb h Q q => by
  unfold notND at h
  split at h
  · cases h
    cases rp_val ra
    cases rp_val rb
    exact ⟨rfl, q _ G H (Wd.refl e) (.val _)⟩
  · cases h
    obtain ⟨p, vs, rfl, _⟩ := rp_lst ra
    cases rp_val rb
    exact ⟨rfl, q _ G H (Wd.refl e) (.val _)⟩
  · cases h
    obtain ⟨p, vs, rfl, _⟩ := rp_tup ra
    cases rp_val rb
    exact ⟨rfl, q _ G H (Wd.refl e) (.val _)⟩
  · cases h
end
end DD

set_option Elab.async false
set_option linter.all false
set_option maxRecDepth 100000
set_option maxHeartbeats 4000000
/-! DD4: order, membership, items, slices, calls of built-ins, methods, truth. -/
namespace DD
open PySem L2 Evl
section
variable {K : PySem.W.Frag} {G H : Hp}
/-! ### order -/
def intsD : List D → Option (List Int)
  | [] => some []
  | .val (.int i) :: r => (intsD r).map (i :: ·)
  | _ :: _ => none
theorem intsD_ints : ∀ {ds : List D} {ns : List Int}, intsD ds = some ns → ds = (ns.map V.int).map .val
  | [], ns, h => by
    simp only [intsD, Option.some.injEq] at h
    subst h
    rfl
  | .val (.int i) :: r, ns, h => by
    simp only [intsD, Option.map_eq_some_iff] at h
    obtain ⟨ms, h, rfl⟩ := h
    rw [intsD_ints h]
    rfl
  | .val .non :: r, ns, h => by simp [intsD] at h
  | .val (.bl _) :: r, ns, h => by simp [intsD] at h
  | .val (.str _) :: r, ns, h => by simp [intsD] at h
  | .val (.byt _) :: r, ns, h => by simp [intsD] at h
  | .val (.flt _) :: r, ns, h => by simp [intsD] at h
  | .val (.ref _) :: r, ns, h => by simp [intsD] at h
  | .val (.ty _) :: r, ns, h => by simp [intsD] at h
  | .lst _ :: r, ns, h => by simp [intsD] at h
  | .tup _ :: r, ns, h => by simp [intsD] at h
theorem intsD_map (ns : List Int) : intsD (ns.map D.int) = some ns := by
  induction ns with
  | nil => rfl
  | cons n r ih => simp [intsD, ih]
theorem rp_ints {v : V} {ds : List D} {ns : List Int} (h : Rp K G v (.tup ds)) (hi : intsD ds = some ns) : ∃ a, v = .ref a ∧ SqT K G a (ns.map V.int) := by
  obtain ⟨a, vs, rfl, h1, r⟩ := rp_tup h
  rw [intsD_ints hi] at r
  rw [Rps.of_vals r] at h1
  exact ⟨a, rfl, h1⟩
/-- ns < ms, as tuples are ordered -/
def lexLe (ns ms : List Int) : Bool := !HT.lexLt ms ns
theorem lexAt_shift (e r : Nat → Bool) (z : Bool) : ∀ (k i : Nat), Ob.lexAt e r z (i + 1) k = Ob.lexAt (fun j => e (j + 1)) (fun j => r (j + 1)) z i k
  | 0, _ => rfl
  | k + 1, i => by
    rw [Ob.lexAt_succ, Ob.lexAt_succ, lexAt_shift e r z k (i + 1)]
theorem lexAt_le : ∀ ns ms : List Int, Ob.lexAt (fun j => decide (ns.getD j 0 = ms.getD j 0)) (fun j => decide (ns.getD j 0 ≤ ms.getD j 0)) (decide (ns.length ≤ ms.length)) 0 (min ns.length ms.length) = lexLe ns ms
  | [], [] => rfl
  | [], m :: ms => by
    rw [show min ([] : List Int).length (m :: ms).length = 0 by simp, Ob.lexAt_zero]
    simp [lexLe, HT.lexLt]
  | n :: ns, [] => by
    rw [show min (n :: ns).length ([] : List Int).length = 0 by simp, Ob.lexAt_zero]
    simp [lexLe, HT.lexLt]
  | n :: ns, m :: ms => by
    rw [show min (n :: ns).length (m :: ms).length = min ns.length ms.length + 1 by simp [Nat.succ_min_succ], Ob.lexAt_succ, lexAt_shift]
    have ih := lexAt_le ns ms
    have e1 : (fun j => decide ((n :: ns).getD (j + 1) 0 = (m :: ms).getD (j + 1) 0)) = fun j => decide (ns.getD j 0 = ms.getD j 0) := by
      funext j
      simp
    have e2 : (fun j => decide ((n :: ns).getD (j + 1) 0 ≤ (m :: ms).getD (j + 1) 0)) = fun j => decide (ns.getD j 0 ≤ ms.getD j 0) := by
      funext j
      simp
    have e3 : decide ((n :: ns).length ≤ (m :: ms).length) = decide (ns.length ≤ ms.length) := by simp
    rw [e1, e2, e3, ih]
    simp only [List.getD_cons_zero, lexLe, HT.lexLt]
    by_cases h : n = m
    · subst h
      simp
    · rw [if_neg (by simpa using h), if_neg (Ne.symm h)]
      by_cases h2 : n ≤ m
      · have : ¬ m < n := by omega
        simp [h2, this]
      · have : m < n := by omega
        simp [h2, this]
def ordD (fi : Int → Int → Bool) (fs : List Nat → List Nat → Bool) (ft : List Int → List Int → Bool) : D → D → Option D
  | .val (.int i), .val (.int j) => some (.bl (fi i j))
  | .val (.str x), .val (.str y) => some (.bl (fs x.cps.toList y.cps.toList))
  | .tup xs, .tup ys => (intsD xs).bind fun ns => (intsD ys).map fun ms => .bl (ft ns ms)
  | _, _ => none
def ltD := ordD (fun i j => decide (i < j)) (fun x y => decide (x < y)) HT.lexLt
def leD := ordD (fun i j => decide (i ≤ j)) (fun x y => !decide (y < x)) lexLe
def int2D (fi : Int → Int → Bool) : D → D → Option D
  | .val (.int i), .val (.int j) => some (.bl (fi i j))
  | _, _ => none
def gtD := int2D fun i j => decide (j < i)
def geD := int2D fun i j => decide (j ≤ i)
def rOrd (K : PySem.W.Frag) (fi : Int → Int → Bool) (fs : List Nat → List Nat → Bool) (ft : List Int → List Int → Bool) : R2 := fun x y H Q =>
  (∃ i j, x = .int i ∧ y = .int j ∧ Q (.bl (fi i j)) H) ∨ (∃ i j, x = .str i ∧ y = .str j ∧ Q (.bl (fs i.cps.toList j.cps.toList)) H) ∨
    ∃ a b ns ms, x = .ref a ∧ y = .ref b ∧ SqT K H a (ns.map V.int) ∧ SqT K H b (ms.map V.int) ∧ Q (.bl (ft ns ms)) H
theorem op_ltD {X : Cx} (hu : X.A.units < cLine) : OpR X (compareOp .Lt) (rOrd X.K (fun i j => decide (i < j)) (fun x y => decide (x < y)) HT.lexLt) := op_lt.or (op_lt_str.or (op_ltT hu))
theorem op_leD {X : Cx} (hu : X.A.units < cLine) : OpR X (compareOp .LtE) (rOrd X.K (fun i j => decide (i ≤ j)) (fun x y => !decide (y < x)) lexLe) := by
  refine op_le.or (op_le_str.or ?_)
  intro pins s σ H x y v u Q I rx ry h
  obtain ⟨a, b, ns, ms, e1, e2, ha, hb, q⟩ := h
  exact op_leT hu pins s σ H x y v u Q I rx ry ⟨a, b, ns, ms, e1, e2, ha, hb, by rw [lexAt_le]; exact q⟩
theorem r2_ord {fi : Int → Int → Bool} {fs : List Nat → List Nat → Bool} {ft : List Int → List Int → Bool} : R2M K (rOrd K fi fs ft) (ordD fi fs ft) := fun x y a b d G H e ra rb h Q q => by
  unfold ordD at h
  split at h
  · cases h
    cases rp_val ra
    cases rp_val rb
    exact .inl ⟨_, _, rfl, rfl, q _ G H (Wd.refl e) (.val _)⟩
  · cases h
    cases rp_val ra
    cases rp_val rb
    exact .inr (.inl ⟨_, _, rfl, rfl, q _ G H (Wd.refl e) (.val _)⟩)
  · obtain ⟨ns, e1, h⟩ := Option.bind_eq_some_iff.mp h
    obtain ⟨ms, e2, rfl⟩ := Option.map_eq_some_iff.mp h
    obtain ⟨p, rfl, h1⟩ := rp_ints ra e1
    obtain ⟨p2, rfl, h2⟩ := rp_ints rb e2
    exact .inr (.inr ⟨p, p2, ns, ms, rfl, rfl, ex_t e h1, ex_t e h2, q _ G H (Wd.refl e) (.val _)⟩)
  · cases h
theorem r2_lt : R2M K (rOrd K (fun i j => decide (i < j)) (fun x y => decide (x < y)) HT.lexLt) ltD := r2_ord
theorem r2_le : R2M K (rOrd K (fun i j => decide (i ≤ j)) (fun x y => !decide (y < x)) lexLe) leD := r2_ord
theorem r2_int2 {fi : Int → Int → Bool} : R2M K (rI0 fun i j => .bl (fi i j)) (int2D fi) := fun x y a b d G H e ra rb h Q q => by
  unfold int2D at h
  split at h
  · cases h
    cases rp_val ra
    cases rp_val rb
    exact ⟨_, _, rfl, rfl, q _ G H (Wd.refl e) (.val _)⟩
  · cases h
theorem r2_gt : R2M K (rI0 fun i j => .bl (decide (j < i))) gtD := r2_int2
theorem r2_ge : R2M K (rI0 fun i j => .bl (decide (j ≤ i))) geD := r2_int2

/-! ### in -/
def flatD : D → Option V
  | .val v => if flatV v = true then some v else none
  | _ => none
def flatsD : List D → Option (List V)
  | [] => some []
  | d :: r => (flatD d).bind fun v => (flatsD r).map (v :: ·)
theorem flatD_val {d : D} {v : V} (h : flatD d = some v) : d = .val v ∧ flatV v = true := by
  unfold flatD at h
  split at h
  · split at h
    · cases h
      exact ⟨rfl, by assumption⟩
    · cases h
  · cases h
theorem flatsD_vals : ∀ {ds : List D} {vs : List V}, flatsD ds = some vs → ds = vs.map .val ∧ vs.all flatV = true
  | [], vs, h => by
    simp only [flatsD, Option.some.injEq] at h
    subst h
    exact ⟨rfl, rfl⟩
  | d :: r, vs, h => by
    simp only [flatsD, Option.bind_eq_some_iff, Option.map_eq_some_iff] at h
    obtain ⟨v, h1, ws, h2, rfl⟩ := h
    obtain ⟨rfl, hf⟩ := flatD_val h1
    obtain ⟨rfl, ha⟩ := flatsD_vals h2
    exact ⟨rfl, by simp [hf, ha]⟩
/-- is a in b: a sign in a text; flat things in a list or tuple; data in a list -/
def memD : D → D → Option Bool
  | .val (.str x), .val (.str y) => if x.cps.size = 1 then some (decide (x.cps.getD 0 0 ∈ y.cps.toList)) else none
  | a, .lst ds => match flatD a, flatsD ds with
    | some v, some vs => some (inV v vs)
    | _, _ => (pd a).bind fun p => (pds ds).bind fun ps => if SeqAt.shaped p && SeqAt.shaped (.list ps) then some (ps.any fun z => PyData.eqv z p) else none
  | a, .tup ds => (flatD a).bind fun v => (flatsD ds).map fun vs => inV v vs
  | _, _ => none
def inD (a b : D) : Option D := (memD a b).map .bl
def ninD (a b : D) : Option D := (memD a b).map fun k => .bl (!k)
def rMem (K : PySem.W.Frag) (g : Bool → Bool) : R2 := fun x y H Q => (∃ (c : Nat) (z : Str), x = .str ⟨#[c]⟩ ∧ y = .str z ∧ Q (.bl (g (decide (c ∈ z.cps.toList)))) H) ∨
  (∃ p xs, y = .ref p ∧ (SqL K H p xs ∨ SqT K H p xs) ∧ flatV x = true ∧ xs.all flatV = true ∧ Q (.bl (g (inV x xs))) H) ∨
  ∃ d ds, Dp K H x d ∧ Dp K H y (.list ds) ∧ SeqAt.shaped d = true ∧ SeqAt.shaped (.list ds) = true ∧ Q (.bl (g (ds.any fun z => PyData.eqv z d))) H
theorem op_inDD {X : Cx} (hu : X.A.units + 65 < cLine) : OpR X (compareOp .In) (rMem X.K id) := op_in_sign.or (op_in_seq.or (op_inD hu))
theorem op_ninDD {X : Cx} (hu : X.A.units + 65 < cLine) : OpR X (compareOp .NotIn) (rMem X.K (!·)) := op_notIn_sign.or (op_notIn_seq.or (op_notInD hu))
theorem one_sign {x : Str} (h : x.cps.size = 1) : x = ⟨#[x.cps.getD 0 0]⟩ := by
  obtain ⟨⟨l⟩⟩ := x
  match l, h with
  | [c], _ => rfl
theorem r_mem {g : Bool → Bool} {x y : V} {a b : D} {k : Bool} (e : Ex G H) (ra : Rp K G x a) (rb : Rp K G y b) (h : memD a b = some k) {Q : VK} (q : Q (.bl (g k)) H) : rMem K g x y H Q := by
  unfold memD at h
  split at h
  · split at h
    · cases h
      cases rp_val ra
      cases rp_val rb
      exact .inl ⟨_, _, by rw [← one_sign (by assumption)], rfl, q⟩
    · cases h
  · obtain ⟨p, vs, rfl, h1, r1⟩ := rp_lst rb
    split at h
    · rename_i h2 h3
      cases h
      obtain ⟨rfl, hf⟩ := flatD_val h2
      obtain ⟨rfl, ha⟩ := flatsD_vals h3
      cases rp_val ra
      rw [Rps.of_vals r1] at h1
      exact .inr (.inl ⟨p, _, rfl, .inl (ex_l e h1), hf, ha, q⟩)
    · obtain ⟨p1, e1, h⟩ := Option.bind_eq_some_iff.mp h
      obtain ⟨ps, e2, h⟩ := Option.bind_eq_some_iff.mp h
      split at h
      · rename_i hs
        cases h
        obtain ⟨s1, s2⟩ := Bool.and_eq_true_iff.mp hs
        exact .inr (.inr ⟨p1, ps, dp_ex e p1 (dp_of a ra e1), .lst (ex_l e h1) (dpAll_ex e ps (dpAll_of _ r1 e2)), s1, s2, q⟩)
      · cases h
  · obtain ⟨p, vs, rfl, h1, r1⟩ := rp_tup rb
    obtain ⟨v, h2, h⟩ := Option.bind_eq_some_iff.mp h
    obtain ⟨ws, h3, rfl⟩ := Option.map_eq_some_iff.mp h
    obtain ⟨rfl, hf⟩ := flatD_val h2
    obtain ⟨rfl, ha⟩ := flatsD_vals h3
    cases rp_val ra
    rw [Rps.of_vals r1] at h1
    exact .inr (.inl ⟨p, _, rfl, .inr (ex_t e h1), hf, ha, q⟩)
  · cases h
theorem r2_in : R2M K (rMem K id) inD := fun x y a b d G H e ra rb h Q q => by
  obtain ⟨k, hk, rfl⟩ := Option.map_eq_some_iff.mp h
  exact r_mem e ra rb hk (q _ G H (Wd.refl e) (.val _))
theorem r2_nin : R2M K (rMem K (!·)) ninD := fun x y a b d G H e ra rb h Q q => by
  obtain ⟨k, hk, rfl⟩ := Option.map_eq_some_iff.mp h
  exact r_mem (g := (!·)) e ra rb hk (q _ G H (Wd.refl e) (.val _))

/-! ### items and slices -/
def ixD : D → D → Option D
  | .lst ds, .val (.int i) => atI ds i
  | .tup ds, .val (.int i) => atI ds i
  | .val (.str z), .val (.int i) => if z.length ≤ big then (atI z.cps.toList i).map fun c => .str ⟨#[c]⟩ else none
  | _, _ => none
theorem at_rps {vs : List V} {ds : List D} {i : Int} {d : D} (r : Rps K G vs ds) (h : atI ds i = some d) : ∃ v, atI vs i = some v ∧ Rp K G v d := by
  unfold atI at h ⊢
  rw [r.length]
  obtain ⟨j, e, h⟩ := Option.bind_eq_some_iff.mp h
  obtain ⟨v, h1, h2⟩ := r.get h
  exact ⟨v, by rw [e]; exact h1, h2⟩
theorem r2_ix : R2M K (rIx K) ixD := fun x y a b d G H e ra rb h Q q => by
  unfold ixD at h
  split at h
  · obtain ⟨p, vs, rfl, h1, r1⟩ := rp_lst ra
    cases rp_val rb
    obtain ⟨v, h2, h3⟩ := at_rps r1 h
    exact .inl ⟨p, vs, _, v, rfl, rfl, ex_l e h1, h2, q v G H (Wd.refl e) h3⟩
  · obtain ⟨p, vs, rfl, h1, r1⟩ := rp_tup ra
    cases rp_val rb
    obtain ⟨v, h2, h3⟩ := at_rps r1 h
    exact .inr (.inl ⟨p, vs, _, v, rfl, rfl, ex_t e h1, h2, q v G H (Wd.refl e) h3⟩)
  · split at h
    · obtain ⟨c, h2, rfl⟩ := Option.map_eq_some_iff.mp h
      cases rp_val ra
      cases rp_val rb
      exact .inr (.inr ⟨_, _, c, rfl, rfl, big_line (by assumption), h2, q _ G H (Wd.refl e) (.val _)⟩)
    · cases h
  · cases h
def cutD (ds : List D) (lo hi : Option Int) : List D := (ds.drop (HT.sIx ds.length 0 lo)).take (HT.sIx ds.length ds.length hi - HT.sIx ds.length 0 lo)
theorem cut_rps {vs : List V} {ds : List D} (lo hi : Option Int) (r : Rps K G vs ds) : Rps K G (cutV vs lo hi) (cutD ds lo hi) := by
  unfold cutV cutD
  rw [r.length]
  exact (r.drop _).take _
def slD : D → Option Int → Option Int → Option D
  | .lst ds, lo, hi => some (.lst (cutD ds lo hi))
  | .tup ds, lo, hi => some (.tup (cutD ds lo hi))
  | .val (.str z), lo, hi => if z.length ≤ big then some (.str (cutS z lo hi)) else none
  | _, _, _ => none
def rSlAny (K : PySem.W.Frag) : V → Option Int → Option Int → Hp → VK → Prop := fun x lo hi H Q => rSlL K x lo hi H Q ∨ rSlA K x lo hi H Q ∨ rSlS x lo hi H Q
theorem sl_any {X : Cx} : SlR X (rSlAny X.K) := sl_list.or (sl_tupA.or sl_str)
theorem cutD_whole {ds : List D} {lo hi : Option Int} (h : HT.sIx ds.length 0 lo = 0 ∧ HT.sIx ds.length ds.length hi = ds.length) : cutD ds lo hi = ds := by
  unfold cutD
  rw [h.1, h.2]
  simp
theorem rs_sl : RSM K (rSlAny K) slD := fun x a lo hi d G H e ra h Q q => by
  unfold slD at h
  split at h
  · cases h
    obtain ⟨p, vs, rfl, h1, r1⟩ := rp_lst ra
    exact .inl ⟨p, vs, rfl, ex_l e h1, new_lst e (cut_rps lo hi r1) q⟩
  · cases h
    obtain ⟨p, vs, rfl, h1, r1⟩ := rp_tup ra
    refine .inr (.inl ⟨p, vs, rfl, ex_t e h1, fun z => ?_, fun _ => new_tup e (cut_rps lo hi r1) q⟩)
    rw [r1.length] at z
    rw [cutD_whole z] at q
    exact q _ G H (Wd.refl e) (.tup h1 r1)
  · split at h
    · cases h
      cases rp_val ra
      exact .inr (.inr ⟨_, rfl, big_line (by assumption), q _ G H (Wd.refl e) (.val _)⟩)
    · cases h
  · cases h
def mRev (m : ME) : ME := fun ρ => (m ρ).bind fun d => match d with
  | .lst ds => some (.lst ds.reverse)
  | _ => none
theorem em_rev {te : TE} {me : ME} (h : EM K te me) : EM K (tRevL K te) (mRev me) := fun ρ d e G0 H0 G H σ c Q q => by
  obtain ⟨a, e1, e⟩ := Option.bind_eq_some_iff.mp e
  split at e
  · cases e
    refine h ρ _ e1 G0 H0 G H σ c _ fun v G1 H1 w r => ?_
    obtain ⟨p, vs, rfl, h1, r1⟩ := rp_lst r
    exact ⟨p, vs, rfl, ex_l w.s h1, new_lst w.s r1.reverse fun v G2 H2 w2 r2 => q v G2 H2 (w.trans w2) r2⟩
  · cases e

/-! ### built-ins by name -/
def lenD : List D → Option D
  | [.val (.str z)] => if z.length ≤ big then some (.int z.length) else none
  | [.lst ds] => some (.int ds.length)
  | [.tup ds] => some (.int ds.length)
  | _ => none
theorem rps_one {vs : List V} {d : D} (r : Rps K G vs [d]) : ∃ v, vs = [v] ∧ Rp K G v d := by
  cases r with
  | cons a b =>
    cases b
    exact ⟨_, rfl, a⟩
theorem rps_two {vs : List V} {d d2 : D} (r : Rps K G vs [d, d2]) : ∃ v w, vs = [v, w] ∧ Rp K G v d ∧ Rp K G w d2 := by
  cases r with
  | cons a b =>
    obtain ⟨w, rfl, b2⟩ := rps_one b
    exact ⟨_, w, rfl, a, b2⟩
theorem rc_len : RCM K (fun xs H Q => ∃ x n, xs = [x] ∧ LenV K x H n ∧ Q (.int n) H) lenD := fun xs as d G H e r h Q q => by
  unfold lenD at h
  split at h
  · split at h
    · cases h
      obtain ⟨v, rfl, r0⟩ := rps_one r
      cases rp_val r0
      exact ⟨_, _, rfl, ⟨big_line (by assumption), rfl⟩, q _ G H (Wd.refl e) (.val _)⟩
    · cases h
  · cases h
    obtain ⟨v, rfl, r0⟩ := rps_one r
    obtain ⟨p, vs, rfl, h1, r1⟩ := rp_lst r0
    exact ⟨_, _, rfl, .inl ⟨vs, ex_l e h1, r1.length.symm⟩, q _ G H (Wd.refl e) (.val _)⟩
  · cases h
    obtain ⟨v, rfl, r0⟩ := rps_one r
    obtain ⟨p, vs, rfl, h1, r1⟩ := rp_tup r0
    exact ⟨_, _, rfl, .inr ⟨vs, ex_t e h1, r1.length.symm⟩, q _ G H (Wd.refl e) (.val _)⟩
  · cases h
def strD : List D → Option D
  | [.val (.int i)] => if i.natAbs.log2 < 1920 then some (.str (PySem.Str.ofString (toString i))) else none
  | _ => none
theorem rc_str : RCM K (fun xs H Q => ∃ i, xs = [.int i] ∧ i.natAbs.log2 < 1920 ∧ Q (.str (toString i)) H) strD := fun xs as d G H e r h Q q => by
  unfold strD at h
  split at h
  · split at h
    · cases h
      obtain ⟨v, rfl, r0⟩ := rps_one r
      cases rp_val r0
      exact ⟨_, rfl, by assumption, q _ G H (Wd.refl e) (.val _)⟩
    · cases h
  · cases h
def intF : List D → Option D
  | [.val (.int i)] => some (.int i)
  | [.val (.bl b)] => some (.int (if b then 1 else 0))
  | [.val (.str z)] => if z.length ≤ 640 then (PySem.intText? z).map .int else none
  | _ => none
def rIntC : List V → Hp → VK → Prop := fun xs H Q => ((∃ i, xs = [.int i] ∧ Q (.int i) H) ∨ ∃ k, xs = [.bl k] ∧ Q (.int (if k then 1 else 0)) H) ∨ ∃ a n, xs = [.str a] ∧ PySem.intText? a = some n ∧ a.length ≤ 640 ∧ Q (.int n) H
theorem callR_or {X : Cx} {f : Value} {r r' : List V → Hp → VK → Prop} (h : CallR X f r) (h' : CallR X f r') : CallR X f (fun xs H Q => r xs H Q ∨ r' xs H Q) := by
  intro pins s σ H xs us Q I rx q
  rcases q with q | q
  · exact h pins s σ H xs us Q I rx q
  · exact h' pins s σ H xs us Q I rx q
theorem call_intD {X : Cx} : CallR X (.type "int") rIntC := callR_or call_int1 call_int_str
theorem rc_int : RCM K rIntC intF := fun xs as d G H e r h Q q => by
  unfold intF at h
  split at h
  · cases h
    obtain ⟨v, rfl, r0⟩ := rps_one r
    cases rp_val r0
    exact .inl (.inl ⟨_, rfl, q _ G H (Wd.refl e) (.val _)⟩)
  · cases h
    obtain ⟨v, rfl, r0⟩ := rps_one r
    cases rp_val r0
    exact .inl (.inr ⟨_, rfl, q _ G H (Wd.refl e) (.val _)⟩)
  · split at h
    · obtain ⟨n, h1, rfl⟩ := Option.map_eq_some_iff.mp h
      obtain ⟨v, rfl, r0⟩ := rps_one r
      cases rp_val r0
      exact .inr ⟨_, n, rfl, h1, by assumption, q _ G H (Wd.refl e) (.val _)⟩
    · cases h
  · cases h
def tupleD : List D → Option D
  | [.lst ds] => some (.tup ds)
  | [.tup ds] => some (.tup ds)
  | _ => none
theorem rc_tuple : RCM K (fun xs H Q => ∃ p ys, xs = [.ref p] ∧ ((SqL K H p ys ∧ ∀ l, H l = none → Q (.ref l) (upd H l (.tup ys))) ∨ (SqT K H p ys ∧ Q (.ref p) H))) tupleD := fun xs as d G H e r h Q q => by
  unfold tupleD at h
  split at h
  · cases h
    obtain ⟨v, rfl, r0⟩ := rps_one r
    obtain ⟨p, vs, rfl, h1, r1⟩ := rp_lst r0
    exact ⟨p, vs, rfl, .inl ⟨ex_l e h1, new_tup e r1 q⟩⟩
  · cases h
    obtain ⟨v, rfl, r0⟩ := rps_one r
    obtain ⟨p, vs, rfl, h1, r1⟩ := rp_tup r0
    exact ⟨p, vs, rfl, .inr ⟨ex_t e h1, q _ G H (Wd.refl e) (.tup h1 r1)⟩⟩
  · cases h
def listD : List D → Option D
  | [.lst ds] => some (.lst ds)
  | [.tup ds] => some (.lst ds)
  | _ => none
theorem rc_list : RCM K (fun xs H Q => ∃ p ys, xs = [.ref p] ∧ (SqL K H p ys ∨ SqT K H p ys) ∧ ∀ l, H l = none → Q (.ref l) (upd H l (.lst ys))) listD := fun xs as d G H e r h Q q => by
  unfold listD at h
  split at h
  · cases h
    obtain ⟨v, rfl, r0⟩ := rps_one r
    obtain ⟨p, vs, rfl, h1, r1⟩ := rp_lst r0
    exact ⟨p, vs, rfl, .inl (ex_l e h1), new_lst e r1 q⟩
  · cases h
    obtain ⟨v, rfl, r0⟩ := rps_one r
    obtain ⟨p, vs, rfl, h1, r1⟩ := rp_tup r0
    exact ⟨p, vs, rfl, .inr (ex_t e h1), new_lst e r1 q⟩
  · cases h
def blsD : List D → Option (List Bool)
  | [] => some []
  | .val (.bl b) :: r => (blsD r).map (b :: ·)
  | _ :: _ => none
theorem blsD_bls : ∀ {ds : List D} {bs : List Bool}, blsD ds = some bs → ds = (bs.map V.bl).map .val
  | [], ns, h => by
    simp only [blsD, Option.some.injEq] at h
    subst h
    rfl
  | .val (.bl i) :: r, ns, h => by
    simp only [blsD, Option.map_eq_some_iff] at h
    obtain ⟨ms, h, rfl⟩ := h
    rw [blsD_bls h]
    rfl
  | .val .non :: r, ns, h => by simp [blsD] at h
  | .val (.int _) :: r, ns, h => by simp [blsD] at h
  | .val (.str _) :: r, ns, h => by simp [blsD] at h
  | .val (.byt _) :: r, ns, h => by simp [blsD] at h
  | .val (.flt _) :: r, ns, h => by simp [blsD] at h
  | .val (.ref _) :: r, ns, h => by simp [blsD] at h
  | .val (.ty _) :: r, ns, h => by simp [blsD] at h
  | .lst _ :: r, ns, h => by simp [blsD] at h
  | .tup _ :: r, ns, h => by simp [blsD] at h
theorem blsD_map (bs : List Bool) : blsD (bs.map D.bl) = some bs := by
  induction bs with
  | nil => rfl
  | cons n r ih => simp [blsD, ih]
def allD : List D → Option D
  | [.lst ds] => (blsD ds).map fun bs => .bl (bs.all id)
  | _ => none
theorem rc_all : RCM K (rAll K) allD := fun xs as d G H e r h Q q => by
  unfold allD at h
  split at h
  · obtain ⟨bs, h1, rfl⟩ := Option.map_eq_some_iff.mp h
    obtain ⟨v, rfl, r0⟩ := rps_one r
    obtain ⟨p, vs, rfl, h2, r1⟩ := rp_lst r0
    rw [blsD_bls h1] at r1
    rw [Rps.of_vals r1] at h2
    exact ⟨p, bs, rfl, ex_l e h2, q _ G H (Wd.refl e) (.val _)⟩
  · cases h

/-! ### methods of texts -/
def strsD : List D → Option (List Str)
  | [] => some []
  | .val (.str z) :: r => (strsD r).map (z :: ·)
  | _ :: _ => none
theorem strsD_strs : ∀ {ds : List D} {zs : List Str}, strsD ds = some zs → ds = (zs.map V.str).map .val
  | [], ns, h => by
    simp only [strsD, Option.some.injEq] at h
    subst h
    rfl
  | .val (.str i) :: r, ns, h => by
    simp only [strsD, Option.map_eq_some_iff] at h
    obtain ⟨ms, h, rfl⟩ := h
    rw [strsD_strs h]
    rfl
  | .val .non :: r, ns, h => by simp [strsD] at h
  | .val (.int _) :: r, ns, h => by simp [strsD] at h
  | .val (.bl _) :: r, ns, h => by simp [strsD] at h
  | .val (.byt _) :: r, ns, h => by simp [strsD] at h
  | .val (.flt _) :: r, ns, h => by simp [strsD] at h
  | .val (.ref _) :: r, ns, h => by simp [strsD] at h
  | .val (.ty _) :: r, ns, h => by simp [strsD] at h
  | .lst _ :: r, ns, h => by simp [strsD] at h
  | .tup _ :: r, ns, h => by simp [strsD] at h
theorem strsD_map (zs : List Str) : strsD (zs.map D.str) = some zs := by
  induction zs with
  | nil => rfl
  | cons n r ih => simp [strsD, ih]
theorem rps_strs : ∀ zs : List Str, Rps K G (zs.map V.str) (zs.map D.str)
  | [] => .nil
  | z :: zs => .cons (.val _) (rps_strs zs)
def splitD : D → List D → Option D
  | .val (.str a), [.val (.str b)] => if (b.length == 0) = false ∧ a.length + 2 ≤ big then some (.lst ((Txt.split a b).map .str)) else none
  | _, _ => none
theorem rm_split : RMM K "str" (fun x xs H Q => ∃ a b, x = .str a ∧ xs = [.str b] ∧ (b.length == 0) = false ∧ a.length + 2 ≤ sizeLine ∧ rNewStrs (Txt.split a b) H Q) splitD := fun x xs a as d h => by
  unfold splitD at h
  split at h
  · split at h
    · rename_i hb
      cases h
      refine ⟨fun G H e ra => by cases rp_val ra; exact rfl, fun G H e ra r Q q => ?_⟩
      cases rp_val ra
      obtain ⟨v, rfl, r0⟩ := rps_one r
      cases rp_val r0
      refine ⟨_, _, rfl, rfl, hb.1, big_line hb.2, new_lst e ?_ q⟩
      exact rps_strs _
    · cases h
  · cases h
def joinD : D → List D → Option D
  | .val (.str a), [.lst ds] => (strsD ds).bind fun ys => if (ys.map (·.length)).sum + ys.length * a.length ≤ big then some (.str (Txt.join a ys)) else none
  | _, _ => none
theorem rm_join : RMM K "str" (fun x xs H Q => ∃ a p, ∃ ys : List Str, x = .str a ∧ xs = [.ref p] ∧ (SqL K H p (ys.map V.str) ∨ SqT K H p (ys.map V.str)) ∧
    (ys.map (·.length)).sum + ys.length * a.length ≤ 16777216 ∧ Q (.str (Txt.join a ys)) H) joinD := fun x xs a as d h => by
  unfold joinD at h
  split at h
  · obtain ⟨ys, h1, h⟩ := Option.bind_eq_some_iff.mp h
    split at h
    · rename_i hb
      cases h
      refine ⟨fun G H e ra => by cases rp_val ra; exact rfl, fun G H e ra r Q q => ?_⟩
      cases rp_val ra
      obtain ⟨v, rfl, r0⟩ := rps_one r
      obtain ⟨p, vs, rfl, h2, r1⟩ := rp_lst r0
      rw [strsD_strs h1] at r1
      rw [Rps.of_vals r1] at h2
      exact ⟨_, p, ys, rfl, rfl, .inl (ex_l e h2), hb, q _ G H (Wd.refl e) (.val _)⟩
    · cases h
  · cases h

/-! ### truth -/
def truD : D → Option Bool
  | .val .non => some false
  | .val (.bl b) => some b
  | .val (.int i) => some (i != 0)
  | .val (.str z) => if z.length ≤ big then some ((z.length : Int) != 0) else none
  | .lst ds => some (!ds.isEmpty)
  | .tup ds => some (!ds.isEmpty)
  | _ => none
theorem isEmpty_rps {vs : List V} {ds : List D} (r : Rps K G vs ds) : vs.isEmpty = ds.isEmpty := by
  cases r <;> rfl
theorem tru_of {v : V} {d : D} {k : Bool} (e : Ex G H) (r : Rp K G v d) (h : truD d = some k) : TruV K v H k := by
  unfold truD at h
  split at h
  · cases h
    cases rp_val r
    exact rfl
  · cases h
    cases rp_val r
    exact rfl
  · cases h
    cases rp_val r
    exact rfl
  · split at h
    · cases h
      cases rp_val r
      exact ⟨big_line (by assumption), rfl⟩
    · cases h
  · cases h
    obtain ⟨p, vs, rfl, h1, r1⟩ := rp_lst r
    exact .inl ⟨vs, ex_l e h1, by rw [isEmpty_rps r1]⟩
  · cases h
    obtain ⟨p, vs, rfl, h1, r1⟩ := rp_tup r
    exact .inr (.inl ⟨vs, ex_t e h1, by rw [isEmpty_rps r1]⟩)
  · cases h
end
end DD

set_option Elab.async false
set_option linter.all false
set_option maxRecDepth 100000
set_option maxHeartbeats 4000000
/-! DD5: what a statement does in terms of data; loops, comprehensions, calls; a def's promise in terms of data. -/
namespace DD
open PySem L2 Evl

inductive Out where
  | nx (ρ : DEnv) | rt (d : D) | bk (ρ : DEnv) | ct (ρ : DEnv) | ex (C : Addr) (f : Str) (x : D) (ρ : DEnv)

section
variable (K : PySem.W.Frag)
def Post (G0 H0 G : Hp) (W : WX) (E : Ends) : Out → Prop
  | .nx ρ => ∀ G' H' σ', Ex G G' → Cfg K G0 H0 G' H' σ' ρ → E.nx σ' H'
  | .rt d => ∀ v G' H', Wd G0 H0 G' H' → Rp K G' v d → E.rt v H'
  | .bk ρ => ∀ G' H' σ', Ex G G' → Cfg K G0 H0 G' H' σ' ρ → E.bk σ' H'
  | .ct ρ => ∀ G' H' σ', Ex G G' → Cfg K G0 H0 G' H' σ' ρ → E.ct σ' H'
  | .ex C f x ρ => ∀ (a : Addr) (v : V) G' H' σ', Ex G G' → Cfg K G0 H0 G' H' σ' ρ → Rp K G' v x → H' a = some (.xd [(f, v)]) → W (.ref C) (some a) σ' H'
def ExS (W : WX) (ts : TS) (ρ : DEnv) (o : Out) : Prop := ∀ G0 H0 G H σ (E : Ends), Cfg K G0 H0 G H σ ρ → Post K G0 H0 G W E o → ts E σ H
abbrev MS := DEnv → Option Out
def SM (W : WX) (ts : TS) (m : MS) : Prop := ∀ ρ o, m ρ = some o → ExS K W ts ρ o
end

section
variable {K : PySem.W.Frag} {W : WX} {t u : TS} {m n : MS} {te : TE} {me : ME} {tt : TT} {mt : MT}
theorem Post.mono {G0 H0 G G1 : Hp} {E : Ends} {o : Out} (e : Ex G G1) (p : Post K G0 H0 G W E o) : Post K G0 H0 G1 W E o := by
  cases o with
  | nx ρ => exact fun G' H' σ' x => p G' H' σ' (e.trans x)
  | rt d => exact p
  | bk ρ => exact fun G' H' σ' x => p G' H' σ' (e.trans x)
  | ct ρ => exact fun G' H' σ' x => p G' H' σ' (e.trans x)
  | ex C f x ρ => exact fun a v G' H' σ' z => p a v G' H' σ' (e.trans z)
def mNext : MS := fun ρ => some (.nx ρ)
theorem sm_next : SM K W tNext mNext := fun ρ o h G0 H0 G H σ E c p => by
  cases h
  exact p G H σ (Ex.refl G) c
def mSeq (m n : MS) : MS := fun ρ => (m ρ).bind fun o => match o with
  | .nx ρ' => n ρ'
  | o => some o
theorem sm_seq (h1 : SM K W t m) (h2 : SM K W u n) : SM K W (tSeq t u) (mSeq m n) := fun ρ o h G0 H0 G H σ E c p => by
  obtain ⟨o1, e1, h⟩ := Option.bind_eq_some_iff.mp h
  refine h1 ρ o1 e1 G0 H0 G H σ { E with nx := u E } c ?_
  cases o1 with
  | nx ρ' => exact fun G' H' σ' e' c' => h2 ρ' o h G0 H0 G' H' σ' E c' (p.mono e')
  | rt d => cases h; exact p
  | bk ρ' => cases h; exact p
  | ct ρ' => cases h; exact p
  | ex C f x ρ' => cases h; exact p
def mAsg (i : Nat) (m : ME) : MS := fun ρ => (m ρ).map fun d => .nx (ρ.set i (.pu d))
theorem sm_asg {i : Nat} (h : EM K te me) : SM K W (tAsg te (gName i)) (mAsg i me) := fun ρ o e G0 H0 G H σ E c p => by
  obtain ⟨d, e1, rfl⟩ := Option.map_eq_some_iff.mp e
  exact h ρ d e1 G0 H0 G H σ c _ fun v G' H' w r => p G' H' _ w.g ((c.mono w).set r)
/-- name = a new list that the def goes on to change -/
def mAsgO (i : Nat) (m : MA) : MS := fun ρ => (m ρ).map fun ds => .nx (ρ.set i (.ow ds))
theorem Cfg.setOw' {G0 H0 G H G' H' : Hp} {σ : L2.St} {ρ : DEnv} {i : Nat} {p : Addr} {vs : List V} {ds : List D} (c : Cfg K G0 H0 G H σ ρ) (w : Wd G H G' H') (hp : H p = none) (gp : G' p = none) (hh : H' p = some (.lst vs)) (r : Rps K G' vs ds) :
    Cfg K G0 H0 G' H' (σ.set i (some (.ref p))) (ρ.set i (.ow ds)) := by
  have c1 := c.mono w
  refine ⟨c1.wd, by rw [List.length_set, List.length_set]; exact c.len, fun j e q => ?_, fun j k ej ek a hjk qj qk oj ok => ?_⟩
  · rcases getElem?_set_some q with ⟨rfl, rfl, hl⟩ | ⟨hj, q⟩
    · exact ⟨p, by rw [List.getElem?_set_self (by rw [← c.len]; exact hl)], vs, hh, gp, fresh_back c.wd.2.1 hp, r⟩
    · rw [List.getElem?_set_ne (Ne.symm hj)]
      exact c1.slot j e q
  · have other : ∀ (j : Nat) (e : DE), ρ[j]? = some e → isOw e = true → σ[j]? ≠ some (some (.ref p)) := fun j e q oe z => by
      have s := c.slot j e q
      cases e with
      | un => cases oe
      | pu d => cases oe
      | ow es =>
        obtain ⟨b, h1, ws, h2, _⟩ := s
        rw [z] at h1
        cases h1
        rw [hp] at h2
        cases h2
      | od P w es =>
        obtain ⟨b, h1, ws, h2, _⟩ := s
        rw [z] at h1
        cases h1
        rw [hp] at h2
        cases h2
    rcases getElem?_set_some qj with ⟨rfl, rfl, hl⟩ | ⟨hj, qj⟩
    · rcases getElem?_set_some qk with ⟨rfl, _, _⟩ | ⟨hk, qk⟩
      · exact absurd rfl hjk
      · rw [List.getElem?_set_self (by rw [← c.len]; exact hl), List.getElem?_set_ne (Ne.symm hk)]
        intro e
        cases e
        exact other k ek qk ok
    · have qj1 := qj
      rcases getElem?_set_some qk with ⟨rfl, rfl, hl⟩ | ⟨hk, qk⟩
      · rw [List.getElem?_set_ne (Ne.symm hj), List.getElem?_set_self (by rw [← c.len]; exact hl)]
        intro e z
        cases z
        exact other j ej qj1 oj e
      · rw [List.getElem?_set_ne (Ne.symm hj), List.getElem?_set_ne (Ne.symm hk)]
        exact c.dis j k ej ek a hjk qj qk oj ok
theorem sm_asgO {i : Nat} {ml : MA} (h : FM K te ml) : SM K W (tAsg te (gName i)) (mAsgO i ml) := fun ρ o e G0 H0 G H σ E c p => by
  obtain ⟨ds, e1, rfl⟩ := Option.map_eq_some_iff.mp e
  exact h ρ ds e1 G0 H0 G H σ c _ fun q vs G' H' w hp gp hh r => p G' H' _ w.g (c.setOw' w hp gp hh r)
def mRet (m : ME) : MS := fun ρ => (m ρ).map .rt
theorem sm_ret (h : EM K te me) : SM K W (tRet te) (mRet me) := fun ρ o e G0 H0 G H σ E c p => by
  obtain ⟨d, e1, rfl⟩ := Option.map_eq_some_iff.mp e
  exact h ρ d e1 G0 H0 G H σ c _ fun v G' H' w r => p v G' H' (c.wd0.trans w) r
def mRetN : MS := fun _ => some (.rt (.val .non))
theorem sm_retN : SM K W tRetN mRetN := fun ρ o e G0 H0 G H σ E c p => by
  cases e
  exact p .non G H c.wd0 (.val _)
def mIfS (t : MT) (a b : MS) : MS := fun ρ => (t ρ).bind fun x => if x = true then a ρ else b ρ
theorem sm_if (h : TM K tt mt) (h1 : SM K W t m) (h2 : SM K W u n) : SM K W (tIfS tt t u) (mIfS mt m n) := fun ρ o e G0 H0 G H σ E c p => by
  obtain ⟨x, e1, e⟩ := Option.bind_eq_some_iff.mp e
  refine h ρ x e1 G0 H0 G H σ c _ fun G1 H1 w => ?_
  cases x with
  | true => exact iteT (h1 ρ o e G0 H0 G1 H1 σ E (c.mono w) (p.mono w.g))
  | false => exact iteF (h2 ρ o e G0 H0 G1 H1 σ E (c.mono w) (p.mono w.g))
def mDrop (m : ME) : MS := fun ρ => (m ρ).map fun _ => .nx ρ
theorem sm_drop (h : EM K te me) : SM K W (tDrop te) (mDrop me) := fun ρ o e G0 H0 G H σ E c p => by
  obtain ⟨d, e1, rfl⟩ := Option.map_eq_some_iff.mp e
  exact h ρ d e1 G0 H0 G H σ c _ fun v G' H' w r => p G' H' _ w.g (c.mono w)
def mBreak : MS := fun ρ => some (.bk ρ)
theorem sm_break : SM K W tBreak mBreak := fun ρ o h G0 H0 G H σ E c p => by
  cases h
  exact p G H σ (Ex.refl G) c
def mCont : MS := fun ρ => some (.ct ρ)
theorem sm_cont : SM K W tCont mCont := fun ρ o h G0 H0 G H σ E c p => by
  cases h
  exact p G H σ (Ex.refl G) c
/-- own list: append -/
def mApp (i : Nat) (m : ME) : MS := fun ρ => match ρ[i]? with
  | some (.ow ds) => (m ρ).bind fun d => if ds.length < big then some (.nx (ρ.set i (.ow (ds ++ [d])))) else none
  | _ => none
theorem sm_app {i : Nat} (h : EM K te me) : SM K W (tDrop (tBM K "list" rAppend (tVar i) (tCons te tNil))) (mApp i me) := fun ρ o e G0 H0 G H σ E c p => by
  unfold mApp at e
  split at e
  · rename_i ds hi
    obtain ⟨d, e1, e⟩ := Option.bind_eq_some_iff.mp e
    split at e
    · rename_i hz
      cases e
      obtain ⟨a, ha, vs, h1, h2, h3, r⟩ := c.slot i _ hi
      refine ⟨.ref a, ha, .inl ⟨rfl, vs, .inl (.inl h1)⟩, ?_⟩
      refine h ρ d e1 G0 H0 G H σ c _ fun v G' H' w rv => ?_
      refine ⟨a, vs, v, rfl, rfl, w.h a _ h1, ?_, ?_⟩
      · rw [r.length, sizeLine_eq]
        exact hz
      · exact p G' _ _ w.g ((c.mono w).mut hi ha ((r.mono w.g).append (.cons rv .nil)))
    · cases e
  · cases e
/-- the def's own list is from here on read alone -/
def frz (i : Nat) (ρ : DEnv) : DEnv := match ρ[i]? with
  | some (.ow ds) => ρ.set i (.pu (.lst ds))
  | _ => ρ
theorem sm_frz {i : Nat} (h : SM K W t m) : SM K W t (fun ρ => m (frz i ρ)) := fun ρ o e G0 H0 G H σ E c p => by
  have e1 : m (frz i ρ) = some o := e
  unfold frz at e1
  split at e1
  · rename_i ds hi
    obtain ⟨G', e', c'⟩ := c.frz hi
    exact h _ o e1 G0 H0 G' H σ E c' (p.mono e')
  · exact h ρ o e1 G0 H0 G H σ E c p
/-- += of a name -/
def mAug (i : Nat) (f : D → D → Option D) (m : ME) : MS := fun ρ => (mVar i ρ).bind fun a => (m ρ).bind fun b => (f a b).map fun d => .nx (ρ.set i (.pu d))
theorem sm_aug {i : Nat} {r : TIp} {f : D → D → Option D} (hr : R2M K r f) (h : EM K te me) : SM K W (tAug i te r) (mAug i f me) := fun ρ o e G0 H0 G H σ E c p => by
  obtain ⟨a, e1, e⟩ := Option.bind_eq_some_iff.mp e
  obtain ⟨b, e2, e⟩ := Option.bind_eq_some_iff.mp e
  obtain ⟨d, e3, rfl⟩ := Option.map_eq_some_iff.mp e
  unfold mVar at e1
  split at e1
  · rename_i d' hi
    cases e1
    obtain ⟨v, hv, rv⟩ := c.slot i _ hi
    refine ⟨v, hv, h ρ b e2 G0 H0 G H σ c _ fun y G' H' w ry => ?_⟩
    exact hr v y _ b d G' H' w.s (rv.mono w.g) ry e3 _ fun z G2 H2 w2 rz => p G2 H2 _ (w.g.trans w2.g) ((c.mono (w.trans w2)).set rz)
  · cases e1
/-- a, b = x, y -/
def mPar (i j : Nat) (m : MA) : MS := fun ρ => (m ρ).bind fun ds => match ds with
  | [a, b] => some (.nx ((ρ.set i (.pu a)).set j (.pu b)))
  | _ => none
theorem sm_par {i j : Nat} {ta : TA} {ml : MA} (h : AM K ta ml) : SM K W (tPar i j ta) (mPar i j ml) := fun ρ o e G0 H0 G H σ E c p => by
  obtain ⟨ds, e1, e⟩ := Option.bind_eq_some_iff.mp e
  split at e
  · cases e
    refine h ρ _ e1 G0 H0 G H σ c _ fun vs G' H' w r => ?_
    obtain ⟨v, x, rfl, r1, r2⟩ := rps_two r
    exact ⟨v, x, rfl, p G' H' _ w.g (((c.mono w).set r1).set r2)⟩
  · cases e

/-! ### targets -/
/-- a target of a for or a comprehension: the slots that it stores, what they hold then -/
def GM (K : PySem.W.Frag) (g : TG) (js : List Nat) (f : D → DEnv → Option DEnv) : Prop := ∀ d ρ ρ', f d ρ = some ρ' → ∀ G0 H0 G H σ v, Cfg K G0 H0 G H σ ρ → Rp K G v d → ∀ Q : L2.St → Hp → Prop,
  (∀ σ', Cfg K G0 H0 G H σ' ρ' → (∀ vs : List Nat, (∀ j ∈ js, j ∈ vs) → wipe σ' vs = wipe σ vs) → Q σ' H) → g v σ H Q
theorem wipe_set {σ : L2.St} {j : Nat} {o : Option V} : ∀ {vs : List Nat}, j ∈ vs → wipe (σ.set j o) vs = wipe σ vs
  | [], h => by simp at h
  | k :: vs, h => by
    show (wipe (σ.set j o) vs).set k none = (wipe σ vs).set k none
    by_cases z : j ∈ vs
    · rw [wipe_set z]
    · have e : j = k := by
        rcases List.mem_cons.mp h with e | e
        · exact e
        · exact absurd e z
      subst e
      have : ∀ ws : List Nat, j ∉ ws → ∀ τ : L2.St, wipe (τ.set j o) ws = (wipe τ ws).set j o := fun ws => by
        induction ws with
        | nil => intro _ τ; rfl
        | cons w ws ih =>
          intro hn τ
          have h1 : j ≠ w := fun z => hn (by simp [z])
          have h2 : j ∉ ws := fun z => hn (by simp [z])
          show (wipe (τ.set j o) ws).set w none = ((wipe τ ws).set w none).set j o
          rw [ih h2 τ, List.set_comm _ _ h1]
      rw [this vs z σ, List.set_set]
def gN (i : Nat) : D → DEnv → Option DEnv := fun d ρ => some (ρ.set i (.pu d))
theorem gm_name {i : Nat} : GM K (gName i) [i] (gN i) := fun d ρ ρ' h G0 H0 G H σ v c r Q q => by
  cases h
  exact q _ (c.set r) fun vs hj => wipe_set (hj i (by simp))
/-- several names, one after another, from the parts of a tuple -/
def gNs : List Nat → List D → DEnv → Option DEnv
  | [], [], ρ => some ρ
  | i :: is, d :: ds, ρ => gNs is ds (ρ.set i (.pu d))
  | _, _, _ => none
def GsM (K : PySem.W.Frag) (g : TGs) (js : List Nat) : Prop := ∀ ds ρ ρ', gNs js ds ρ = some ρ' → ∀ G0 H0 G H σ vs, Cfg K G0 H0 G H σ ρ → Rps K G vs ds → ∀ Q : L2.St → Hp → Prop,
  (∀ σ', Cfg K G0 H0 G H σ' ρ' → (∀ ws : List Nat, (∀ j ∈ js, j ∈ ws) → wipe σ' ws = wipe σ ws) → Q σ' H) → g vs σ H Q
theorem gsm_nil : GsM K gNil [] := fun ds ρ ρ' h G0 H0 G H σ vs c r Q q => by
  cases ds with
  | nil =>
    cases r
    cases h
    exact ⟨rfl, q σ c fun _ _ => rfl⟩
  | cons d ds => cases h
theorem gsm_cons {i : Nat} {g : TGs} {js : List Nat} (hg : GsM K g js) : GsM K (gCons (gName i) g) (i :: js) := fun ds ρ ρ' h G0 H0 G H σ vs c r Q q => by
  cases ds with
  | nil => cases h
  | cons d ds =>
    cases r with
    | cons r1 r2 =>
      refine ⟨_, _, rfl, ?_⟩
      refine hg ds _ ρ' h G0 H0 G H _ _ (c.set r1) r2 Q fun σ' c' hw => q σ' c' fun ws hj => ?_
      rw [hw ws fun j h => hj j (by simp [h]), wipe_set (hj i (by simp))]
def gT (js : List Nat) : D → DEnv → Option DEnv := fun d ρ => match d with
  | .tup ds => gNs js ds ρ
  | _ => none
theorem gNs_len : ∀ {js : List Nat} {ds : List D} {ρ ρ' : DEnv}, gNs js ds ρ = some ρ' → ds.length = js.length
  | [], [], _, _, _ => rfl
  | i :: is, d :: ds, ρ, ρ', h => by
    rw [List.length_cons, List.length_cons, gNs_len (js := is) (ds := ds) h]
  | [], _ :: _, _, _, h => by cases h
  | _ :: _, [], _, _, h => by cases h
theorem gm_tup {g : TGs} {js : List Nat} {n : Nat} (hg : GsM K g js) (hn : n = js.length) : GM K (gTup K n g) js (gT js) := fun d ρ ρ' h G0 H0 G H σ v c r Q q => by
  unfold gT at h
  split at h
  · obtain ⟨p, vs, rfl, h1, r1⟩ := rp_tup r
    refine ⟨p, vs, rfl, ex_t c.sub h1, ?_, hg _ ρ ρ' h G0 H0 G H σ vs c r1 Q q⟩
    rw [r1.length, gNs_len h, hn]
  · cases h
/-- a, b = e -/
def mAsgG (f : D → DEnv → Option DEnv) (m : ME) : MS := fun ρ => (m ρ).bind fun d => (f d ρ).map .nx
theorem sm_asgG {g : TG} {js : List Nat} {f : D → DEnv → Option DEnv} (hg : GM K g js f) (h : EM K te me) : SM K W (tAsg te g) (mAsgG f me) := fun ρ o e G0 H0 G H σ E c p => by
  obtain ⟨d, e1, e⟩ := Option.bind_eq_some_iff.mp e
  obtain ⟨ρ', e2, rfl⟩ := Option.map_eq_some_iff.mp e
  exact h ρ d e1 G0 H0 G H σ c _ fun v G' H' w r => hg d ρ ρ' e2 G0 H0 G' H' σ v (c.mono w) r _ fun σ' c' _ => p G' H' σ' w.g c'

/-! ### what is walked -/
/-- an iterator of the data ds -/
def WalkD (K : PySem.W.Frag) (G H : Hp) (J : It) (ds : List D) : Prop := ∃ (Gs : Hp → Prop) (Y : Nat → Hp → V → Hp → Prop), Walk J ds.length Gs Y ∧ (∀ H', Ex G H' → Gs H') ∧
  ∀ i G1 H1 x H2, i < ds.length → Ex G G1 → Ex G1 H1 → Y i H1 x H2 → ∃ d G2, ds[i]? = some d ∧ Wd G1 H1 G2 H2 ∧ Rp K G2 x d
def EvI (K : PySem.W.Frag) (wi : TI) (ρ : DEnv) (ds : List D) : Prop := ∀ G0 H0 G H σ, Cfg K G0 H0 G H σ ρ → ∀ R : It → Hp → Prop, (∀ J G' H', Wd G H G' H' → WalkD K G' H' J ds → R J H') → wi σ H R
def IM (K : PySem.W.Frag) (wi : TI) (m : MA) : Prop := ∀ ρ ds, m ρ = some ds → EvI K wi ρ ds
/-- a list, a tuple, a text -/
def signsD (z : Str) : List D := z.cps.toList.map fun c => D.str ⟨#[c]⟩
def itemsD : D → Option (List D)
  | .lst ds => some ds
  | .tup ds => some ds
  | .val (.str z) => some (signsD z)
  | _ => none
theorem walk_seqD {G H : Hp} {J : It} {vs : List V} {ds : List D} {Gs : Hp → Prop} (w : Walk J vs.length Gs (YAt vs)) (hg : ∀ H', Ex G H' → Gs H') (r : Rps K G vs ds) : WalkD K G H J ds := by
  rw [r.length] at w
  refine ⟨Gs, YAt vs, w, hg, fun i G1 H1 x H2 hi e1 e2 y => ?_⟩
  obtain ⟨rfl, hx⟩ := y
  obtain ⟨d, hd, rd⟩ := r.getV hx
  exact ⟨d, G1, hd, Wd.refl e2, rd.mono e1⟩
theorem ev_list {ρ : DEnv} {ds : List D} (h : EvD K te ρ (.lst ds)) : EvI K (iList K te) ρ ds := fun G0 H0 G H σ c R q => by
  refine h G0 H0 G H σ c _ fun v G' H' w r => ?_
  obtain ⟨p, vs, rfl, h1, r1⟩ := rp_lst r
  exact ⟨p, rfl, ⟨vs, ex_l w.s h1⟩, q _ G' H' w (walk_seqD walk_list (fun H2 e2 => ex_l e2 h1) r1)⟩
theorem ev_tup {ρ : DEnv} {ds : List D} (h : EvD K te ρ (.tup ds)) : EvI K (iTup K te) ρ ds := fun G0 H0 G H σ c R q => by
  refine h G0 H0 G H σ c _ fun v G' H' w r => ?_
  obtain ⟨p, vs, rfl, h1, r1⟩ := rp_tup r
  exact ⟨p, rfl, ⟨vs, ex_t w.s h1⟩, q _ G' H' w (walk_seqD walk_tup (fun H2 e2 => ex_t e2 h1) r1)⟩
theorem ev_str {ρ : DEnv} {z : Str} (h : EvD K te ρ (.str z)) : EvI K (iStr te) ρ (signsD z) := fun G0 H0 G H σ c R q => by
  refine h G0 H0 G H σ c _ fun v G' H' w r => ?_
  cases rp_val r
  have hl : (signsD z).length = z.cps.size := by simp [signsD]
  have wk := walk_str (z := z)
  rw [← hl] at wk
  refine ⟨z, rfl, q _ G' H' w ⟨_, _, wk, fun _ _ => trivial, fun i G1 H1 x H2 hi e1 e2 y => ?_⟩⟩
  obtain ⟨rfl, c', hc, rfl⟩ := y
  refine ⟨D.str ⟨#[c']⟩, G1, ?_, Wd.refl e2, .val _⟩
  unfold signsD
  rw [List.getElem?_map, Array.getElem?_toList, hc]
  rfl
/-- any of the three -/
def iAny (K : PySem.W.Frag) (te : TE) : TI := fun σ H R => iList K te σ H R ∨ iTup K te σ H R ∨ iStr te σ H R
def mItems (m : ME) : MA := fun ρ => (m ρ).bind itemsD
theorem im_any (h : EM K te me) : IM K (iAny K te) (mItems me) := fun ρ ds e G0 H0 G H σ c R q => by
  obtain ⟨d, e1, e⟩ := Option.bind_eq_some_iff.mp e
  have h1 := h ρ d e1
  cases d with
  | lst xs =>
    cases e
    exact .inl (ev_list h1 G0 H0 G H σ c R q)
  | tup xs =>
    cases e
    exact .inr (.inl (ev_tup h1 G0 H0 G H σ c R q))
  | val v =>
    cases v with
    | str z =>
      cases e
      exact .inr (.inr (ev_str h1 G0 H0 G H σ c R q))
    | _ => cases e
/-- range(n), range(a, b), range(a, b, c) -/
def rangeD (lo : Int) (n : Nat) : List D := (List.range n).map fun (i : Nat) => D.int (lo + (i : Int))
theorem walk_rangeD {G H : Hp} {lo : Int} {n : Nat} : WalkD K G H (Itr lo n) (rangeD lo n) := by
  have hl : (rangeD lo n).length = n := by simp [rangeD]
  have wk := walk_range (lo := lo) (n := n)
  refine ⟨fun _ => True, _, by rw [hl]; exact wk, fun _ _ => trivial, fun i G1 H1 x H2 hi e1 e2 y => ?_⟩
  obtain ⟨rfl, rfl⟩ := y
  rw [hl] at hi
  refine ⟨D.int (lo + (i : Int)), G1, ?_, Wd.refl e2, .val _⟩
  unfold rangeD
  rw [List.getElem?_map, List.getElem?_range hi]
  rfl
def mRange1 (m : MA) : MA := fun ρ => (m ρ).bind fun ds => match ds with
  | [.val (.int n)] => if -(2 ^ 62) ≤ n ∧ n < 2 ^ 62 then some (rangeD 0 n.toNat) else none
  | _ => none
def mRange2 (m : MA) : MA := fun ρ => (m ρ).bind fun ds => match ds with
  | [.val (.int a), .val (.int b)] => if (-(2 ^ 62) ≤ a ∧ a < 2 ^ 62) ∧ (-(2 ^ 62) ≤ b ∧ b < 2 ^ 62) then some (rangeD a (b - a).toNat) else none
  | _ => none
/-- zip of two lists; enumerate of a list -/
def zipD : List D → List D → List D
  | a :: as, b :: bs => .tup [a, b] :: zipD as bs
  | _, _ => []
theorem zipD_len : ∀ as bs : List D, (zipD as bs).length = min as.length bs.length
  | [], _ => by simp [zipD]
  | _ :: _, [] => by simp [zipD]
  | a :: as, b :: bs => by simp [zipD, zipD_len as bs, Nat.succ_min_succ]
theorem zipD_get : ∀ {as bs : List D} {i : Nat} {a b : D}, as[i]? = some a → bs[i]? = some b → (zipD as bs)[i]? = some (.tup [a, b])
  | [], _, _, _, _, h, _ => by simp at h
  | _ :: _, [], _, _, _, _, h => by simp at h
  | x :: as, y :: bs, 0, a, b, h, h2 => by
    simp only [List.getElem?_cons_zero, Option.some.injEq] at h h2
    subst h h2
    rfl
  | x :: as, y :: bs, i + 1, a, b, h, h2 => by
    simp only [List.getElem?_cons_succ] at h h2
    exact zipD_get (as := as) (bs := bs) h h2
theorem walk_zipD {G H : Hp} {a b : Addr} {vs ws : List V} {as bs : List D} (h1 : SqL K G a vs) (h2 : SqL K G b ws) (r1 : Rps K G vs as) (r2 : Rps K G ws bs) : WalkD K G H (Itz K a b) (zipD as bs) := by
  have wk := walk_zip (K := K) (a := a) (b := b) (xs := vs) (ys := ws) (n := (zipD as bs).length) (by rw [zipD_len, r1.length, r2.length])
  refine ⟨_, _, wk, fun H' e => ⟨ex_l e h1, ex_l e h2⟩, fun i G1 H1 x H2 hi e1 e2 y => ?_⟩
  obtain ⟨T, v, w, rfl, hT, rfl, hv, hw⟩ := y
  obtain ⟨d1, g1, p1⟩ := r1.getV hv
  obtain ⟨d2, g2, p2⟩ := r2.getV hw
  have wd := Wd.new (o := .tup [v, w]) e2 hT
  exact ⟨_, _, zipD_get g1 g2, wd, .tup (.inl (.inl upd_same)) (.cons (p1.mono (e1.trans wd.g)) (.cons (p2.mono (e1.trans wd.g)) .nil))⟩
def enumD (ds : List D) : List D := zipD (rangeD 0 ds.length) ds
theorem walk_enumD {G H : Hp} {a : Addr} {vs : List V} {ds : List D} (h1 : SqL K G a vs) (r1 : Rps K G vs ds) : WalkD K G H (Ite K a) (enumD ds) := by
  have hl : (enumD ds).length = vs.length := by
    unfold enumD
    rw [zipD_len]
    simp [rangeD, r1.length]
  have wk := walk_enum (K := K) (a := a) (xs := vs)
  refine ⟨_, _, by rw [hl]; exact wk, fun H' e => ex_l e h1, fun i G1 H1 x H2 hi e1 e2 y => ?_⟩
  obtain ⟨T, v, w, rfl, hT, rfl, hv, hw⟩ := y
  obtain ⟨d2, g2, p2⟩ := r1.getV hw
  cases hv
  have wd := Wd.new (o := .tup [.int (i : Nat), w]) e2 hT
  have hi' : i < ds.length := by rw [hl, r1.length] at hi; exact hi
  have g1 : (rangeD 0 ds.length)[i]? = some (D.int (i : Nat)) := by
    unfold rangeD
    rw [List.getElem?_map, List.getElem?_range hi']
    simp
  exact ⟨_, _, zipD_get g1 g2, wd, .tup (.inl (.inl upd_same)) (.cons (.val _) (.cons (p2.mono (e1.trans wd.g)) .nil))⟩

/-! ### for -/
def forL (set : D → DEnv → Option DEnv) (body : MS) : List D → DEnv → Option Out
  | [], ρ => some (.nx ρ)
  | x :: r, ρ => (set x ρ).bind fun ρ1 => (body ρ1).bind fun o => match o with
    | .nx ρ' => forL set body r ρ'
    | .ct ρ' => forL set body r ρ'
    | .bk ρ' => some (.nx ρ')
    | o => some o
def mFor (mi : MA) (set : D → DEnv → Option DEnv) (body : MS) : MS := fun ρ => (mi ρ).bind fun ds => forL set body ds ρ
theorem sm_for {wi : TI} {mi : MA} {g : TG} {js : List Nat} {f : D → DEnv → Option DEnv} (hi : IM K wi mi) (hg : GM K g js f) (hb : SM K W t m) : SM K W (tFor wi g t) (mFor mi f m) := fun ρ o e G0 H0 G H σ E c p => by
  obtain ⟨ds, e1, e⟩ := Option.bind_eq_some_iff.mp e
  refine hi ρ ds e1 G0 H0 G H σ c _ fun J G1 H1 w ⟨Gs, Y, wk, hgs, hy⟩ => ?_
  have c1 := c.mono w
  refine for_it wk (fun i σ' H' => ∃ G' ρ', Ex G1 G' ∧ Cfg K G0 H0 G' H' σ' ρ' ∧ forL f m (ds.drop i) ρ' = some o) ⟨G1, ρ, Ex.refl _, c1, e⟩ (fun i σ' H' _ ⟨G', ρ', e', c', _⟩ => hgs H' (e'.trans c'.sub)) ?_ ?_
  · rintro i x σ' H' H2 hlt ⟨G', ρ', e', c', hf⟩ y
    obtain ⟨d, G2, hd, w2, rx⟩ := hy i G' H' x H2 hlt e' c'.sub y
    have hdrop : ds.drop i = d :: ds.drop (i + 1) := by
      obtain ⟨h1, h2⟩ := List.getElem?_eq_some_iff.mp hd
      rw [List.drop_eq_getElem_cons h1, h2]
    rw [hdrop] at hf
    obtain ⟨ρ1, hs, hf⟩ := Option.bind_eq_some_iff.mp hf
    obtain ⟨o1, ho, hf⟩ := Option.bind_eq_some_iff.mp hf
    refine hg d ρ' ρ1 hs G0 H0 G2 H2 σ' x (c'.mono w2) rx _ fun σ2 c2 _ => ?_
    refine hb ρ1 o1 ho G0 H0 G2 H2 σ2 _ c2 ?_
    have e2 : Ex G1 G2 := e'.trans w2.g
    cases o1 with
    | nx ρ3 => exact fun G3 H3 σ3 e3 c3 => ⟨G3, ρ3, e2.trans e3, c3, hf⟩
    | ct ρ3 => exact fun G3 H3 σ3 e3 c3 => ⟨G3, ρ3, e2.trans e3, c3, hf⟩
    | bk ρ3 =>
      cases hf
      exact fun G3 H3 σ3 e3 c3 => p G3 H3 σ3 (w.g.trans (e2.trans e3)) c3
    | rt d =>
      cases hf
      exact p
    | ex C fl x ρ3 =>
      cases hf
      exact fun a v G3 H3 σ3 e3 c3 => p a v G3 H3 σ3 (w.g.trans (e2.trans e3)) c3
  · rintro σ' H' ⟨G', ρ', e', c', hf⟩
    rw [List.drop_length] at hf
    cases hf
    exact p G' H' σ' (w.g.trans e') c'

/-! ### while, with a bound on its turns -/
def whileN (t : MT) (body : MS) : Nat → DEnv → Option Out
  | 0, _ => none
  | k + 1, ρ => (t ρ).bind fun b => if b = true then (body ρ).bind fun o => match o with
      | .nx ρ' => whileN t body k ρ'
      | .ct ρ' => whileN t body k ρ'
      | .bk ρ' => some (.nx ρ')
      | o => some o
    else some (.nx ρ)
theorem sm_while {k : Nat} (ht : TM K tt mt) (hb : SM K W t m) : SM K W (tWhile tt t) (whileN mt m k) := fun ρ o e G0 H0 G H σ E c p => by
  refine ⟨fun n σ' H' => ∃ G' ρ', Ex G G' ∧ Cfg K G0 H0 G' H' σ' ρ' ∧ whileN mt m n ρ' = some o, ⟨k, G, ρ, Ex.refl _, c, e⟩, ?_⟩
  rintro n σ1 H1 ⟨G1, ρ1, e1, c1, hw⟩
  cases n with
  | zero => cases hw
  | succ n =>
    obtain ⟨b, hb1, hw⟩ := Option.bind_eq_some_iff.mp hw
    refine ht ρ1 b hb1 G0 H0 G1 H1 σ1 c1 _ fun G2 H2 w2 => ?_
    cases b with
    | true =>
      rw [if_pos rfl] at hw
      obtain ⟨o1, ho, hw⟩ := Option.bind_eq_some_iff.mp hw
      refine iteT ⟨fun σ' H' => ∃ G' ρ', Ex G G' ∧ Cfg K G0 H0 G' H' σ' ρ' ∧ whileN mt m n ρ' = some o, fun σ' H' z => ⟨n, Nat.lt_succ_self n, z⟩, ?_⟩
      refine hb ρ1 o1 ho G0 H0 G2 H2 σ1 _ (c1.mono w2) ?_
      have e2 : Ex G G2 := e1.trans w2.g
      cases o1 with
      | nx ρ3 => exact fun G3 H3 σ3 e3 c3 => ⟨G3, ρ3, e2.trans e3, c3, hw⟩
      | ct ρ3 => exact fun G3 H3 σ3 e3 c3 => ⟨G3, ρ3, e2.trans e3, c3, hw⟩
      | bk ρ3 =>
        cases hw
        exact fun G3 H3 σ3 e3 c3 => p G3 H3 σ3 (e2.trans e3) c3
      | rt d =>
        cases hw
        exact p
      | ex C fl x ρ3 =>
        cases hw
        exact fun a v G3 H3 σ3 e3 c3 => p a v G3 H3 σ3 (e2.trans e3) c3
    | false =>
      cases hw
      exact iteF (p G2 H2 σ1 (e1.trans w2.g) (c1.mono w2))

/-! ### comprehensions -/
def wipeD (ρ : DEnv) : List Nat → DEnv
  | [] => ρ
  | v :: vs => (wipeD ρ vs).set v .un
theorem Cfg.wipe {G0 H0 G H : Hp} {σ : L2.St} {ρ : DEnv} (c : Cfg K G0 H0 G H σ ρ) : ∀ vs : List Nat, Cfg K G0 H0 G H (L2.wipe σ vs) (wipeD ρ vs)
  | [] => c
  | v :: vs => (Cfg.wipe c vs).setU
theorem wipe_wipe {σ : L2.St} : ∀ (ws vs : List Nat), (∀ j ∈ ws, j ∈ vs) → wipe (wipe σ ws) vs = wipe σ vs
  | [], vs, _ => rfl
  | w :: ws, vs, h => by
    show wipe ((wipe σ ws).set w none) vs = _
    rw [wipe_set (h w (by simp)), wipe_wipe ws vs fun j hj => h j (by simp [hj])]
def lcL (set : D → DEnv → Option DEnv) (cond : MT) (elt : ME) (ρ : DEnv) : List D → Option (List D)
  | [] => some []
  | x :: r => (set x ρ).bind fun ρ1 => (cond ρ1).bind fun b => if b = true then (elt ρ1).bind fun y => (lcL set cond elt ρ r).map (y :: ·) else lcL set cond elt ρ r
theorem lcL_len {set : D → DEnv → Option DEnv} {cond : MT} {elt : ME} {ρ : DEnv} : ∀ {ds ys : List D}, lcL set cond elt ρ ds = some ys → ys.length ≤ ds.length
  | [], ys, h => by cases h; simp
  | x :: r, ys, h => by
    obtain ⟨ρ1, h1, h⟩ := Option.bind_eq_some_iff.mp h
    obtain ⟨b, h2, h⟩ := Option.bind_eq_some_iff.mp h
    cases b with
    | true =>
      obtain ⟨y, h3, h⟩ := Option.bind_eq_some_iff.mp h
      obtain ⟨zs, h4, rfl⟩ := Option.map_eq_some_iff.mp h
      have := lcL_len h4
      simp only [List.length_cons]
      omega
    | false =>
      have h' : lcL set cond elt ρ r = some ys := h
      have := lcL_len h'
      simp only [List.length_cons]
      omega
def mYes : MT := fun _ => some true
theorem tm_yes : TM K tYes mYes := fun ρ b e G0 H0 G H σ c Q q => by
  cases e
  exact q G H (Wd.refl c.sub)
def mLc (mi : MA) (set : D → DEnv → Option DEnv) (cond : MT) (elt : ME) (vs : List Nat) : MA := fun ρ => (mi ρ).bind fun ds => if ds.length ≤ 10000000 then lcL set cond elt (wipeD ρ vs) ds else none
theorem fm_lc {wi : TI} {mi : MA} {g : TG} {js vs : List Nat} {f : D → DEnv → Option DEnv} (hi : IM K wi mi) (hg : GM K g js f) (hj : ∀ j ∈ js, j ∈ vs) (ht : TM K tt mt) (he : EM K te me) : FM K (tLc wi g tt te vs) (mLc mi f mt me vs) := fun ρ ys e G0 H0 G H σ c Q q => by
  obtain ⟨ds, e1, e⟩ := Option.bind_eq_some_iff.mp e
  split at e
  case isFalse => cases e
  rename_i hz
  refine hi ρ ds e1 G0 H0 G H σ c _ fun J G1 H1 w ⟨Gs, Y, wk, hgs, hy⟩ Dl hD => ?_
  have c1 := c.mono w
  refine lc_it wk (fun i H' => ∃ G' accV accD rest, Wd G1 H1 G' H' ∧ G' Dl = none ∧ H' Dl = some (.lst accV) ∧ Rps K G' accV accD ∧ lcL f mt me (wipeD ρ vs) (ds.drop i) = some rest ∧ accD ++ rest = ys ∧ accD.length ≤ i)
    ⟨G1, [], [], ys, Wd.newH c1.sub hD, fresh_back c1.sub hD, upd_same, .nil, e, rfl, Nat.zero_le _⟩ (fun i H' _ ⟨G', _, _, _, w', _⟩ => hgs H' (w'.g.trans w'.s)) ?_ ?_
  · rintro i x H' H2 hlt ⟨G', accV, accD, rest, w', gD, hDl, ra, hr, hyy, hai⟩ y
    obtain ⟨d, G2, hd, w2, rx⟩ := hy i G' H' x H2 hlt w'.g w'.s y
    have hdrop : ds.drop i = d :: ds.drop (i + 1) := by
      obtain ⟨h1, h2⟩ := List.getElem?_eq_some_iff.mp hd
      rw [List.drop_eq_getElem_cons h1, h2]
    rw [hdrop] at hr
    obtain ⟨ρ1, hs, hr⟩ := Option.bind_eq_some_iff.mp hr
    obtain ⟨b, hbt, hr⟩ := Option.bind_eq_some_iff.mp hr
    have w12 := w'.trans w2
    refine hg d _ ρ1 hs G0 H0 G2 H2 _ x ((c1.mono w12).wipe vs) rx _ fun σ2 c2 hw => ⟨(hw vs hj).trans (wipe_wipe vs vs fun _ h => h), ?_⟩
    refine ht ρ1 b hbt G0 H0 G2 H2 σ2 c2 _ fun G3 H3 w3 => ?_
    have d3 : H3 Dl = some (.lst accV) := w3.h Dl _ (w2.h Dl _ hDl)
    have g2 : G2 Dl = none := w2.c Dl (by rw [hDl]; exact Option.some_ne_none _) gD
    have g3 : G3 Dl = none := w3.c Dl (by rw [w2.h Dl _ hDl]; exact Option.some_ne_none _) g2
    cases b with
    | true =>
      rw [if_pos rfl] at hr
      obtain ⟨yv, hel, hr⟩ := Option.bind_eq_some_iff.mp hr
      obtain ⟨rest', hr2, rfl⟩ := Option.map_eq_some_iff.mp hr
      refine iteT (he ρ1 yv hel G0 H0 G3 H3 σ2 (c2.mono w3) _ fun v G4 H4 w4 rv => ?_)
      have d4 := w4.h Dl _ d3
      have g4 : G4 Dl = none := w4.c Dl (by rw [d3]; exact Option.some_ne_none _) g3
      have w14 := (w12.trans w3).trans w4
      refine ⟨accV, d4, ?_, G4, accV ++ [v], accD ++ [yv], rest', ⟨w14.g, Ex.mut w14.h hD, fun a u z => ?_, w14.c⟩, g4, upd_same, (ra.mono (w2.g.trans (w3.g.trans w4.g))).append (.cons rv .nil), hr2, by rw [List.append_assoc]; exact hyy, ?_⟩
      · rw [ra.length, sizeLine_eq]
        omega
      · have na : a ≠ Dl := fun y => by rw [y, g4] at z; cases z
        rw [upd_ne na]
        exact w4.s a u z
      · rw [List.length_append]
        simp only [List.length_cons, List.length_nil]
        omega
    | false =>
      have hr' : lcL f mt me (wipeD ρ vs) (ds.drop (i + 1)) = some rest := hr
      exact iteF ⟨G3, accV, accD, rest, w12.trans w3, g3, d3, ra.mono (w2.g.trans w3.g), hr', hyy, by omega⟩
  · rintro H' ⟨G', accV, accD, rest, w', gD, hDl, ra, hr, hyy, _⟩
    rw [List.drop_length] at hr
    cases hr
    rw [List.append_nil] at hyy
    subst hyy
    exact q Dl accV G' H' (w.trans w') (fresh_back w.h hD) gD hDl ra
end
end DD

set_option Elab.async false
set_option linter.all false
set_option maxRecDepth 100000
set_option maxHeartbeats 4000000
/-! DD6: a piece of syntax with its reading and its meaning over data; a def's promise over data. -/
namespace DD
open PySem PySem.Spec PyProof.Rows L2 Evl

structure JE (X : Cx) (e : Expr) (t : TE) (m : ME) : Prop where
  p : PE X e t
  m : EM X.K t m
structure JT (X : Cx) (e : Expr) (t : TT) (m : MT) : Prop where
  p : PT X e t
  m : TM X.K t m
structure JW (X : Cx) (e : Expr) (t : TT) (m : MT) : Prop where
  p : PW X e t
  m : TM X.K t m
structure JA (X : Cx) (es : List Expr) (t : TA) (m : MA) : Prop where
  p : PA X es t
  m : AM X.K t m
structure JO (X : Cx) (e : Option Expr) (t : TO) (m : MO) : Prop where
  p : PO X e t
  m : OM X.K t m
structure JF (X : Cx) (e : Expr) (t : TE) (m : MA) : Prop where
  p : PE X e t
  m : FM X.K t m
structure JI (X : Cx) (tg it : Expr) (w : TI) (m : MA) : Prop where
  p : PI X tg it w
  m : IM X.K w m
structure JG (X : Cx) (tg : Expr) (g : TG) (js : List Nat) (f : D → DEnv → Option DEnv) : Prop where
  p : PG X tg g
  m : GM X.K g js f
structure JGs (X : Cx) (tgs : List Expr) (g : TGs) (js : List Nat) : Prop where
  p : PGs X tgs g
  m : GsM X.K g js
structure JTs (X : Cx) (es : List Expr) (t : TT) (m : MT) : Prop where
  p : PTs X es t
  m : TM X.K t m
structure JS (X : Cx) (W : WX) (s : Stmt) (t : TS) (m : MS) : Prop where
  p : PS X s t
  m : SM X.K W t m
structure JB (X : Cx) (W : WX) (s : List Stmt) (t : TS) (m : MS) : Prop where
  p : PSs X s t
  m : SM X.K W t m

section
variable {X : Cx} {W : WX} {a b c e o : Expr} {es : List Expr} {ta tb tc te : TE} {ma mb mc me : ME} {tt tu : TT} {mt mu : MT} {tl : TA} {ml : MA} {pos p2 p3 : Pos} {k j : Nat} {x : Str}
/-! ### names, constants -/
theorem j_var (i : Nat) {x : Str} {pos : Pos} (hN : X.N[i]? = some x := by rfl) (hv : Vis X.env.scope x := by first | exact Or.inl rfl | exact Or.inr (Or.inl rfl) | exact Or.inr (Or.inr rfl)) (hd : (x == ("__debug__" : Str)) = false := by decide)
    (hcd : (x == ("__classdict__" : Str)) = false := by decide) : JE X (.Name x pos) (tVar i) (mVar i) := ⟨pe_var hN hv hd hcd, em_var⟩
theorem j_int {i : Int} {j : Nat} : JE X (.Constant (.int i) j pos) (tC (.int i)) (mC (.int i)) := ⟨pe_int, em_c⟩
theorem j_str {z : Str} {j : Nat} : JE X (.Constant (.str z) j pos) (tC (.str z)) (mC (.str z)) := ⟨pe_str, em_c⟩
theorem j_bl {z : Bool} {j : Nat} : JE X (.Constant (.bool z) j pos) (tC (.bl z)) (mC (.bl z)) := ⟨pe_bl, em_c⟩
theorem j_non {j : Nat} : JE X (.Constant .none j pos) (tC .non) (mC .non) := ⟨pe_non, em_c⟩
/-- a module's constant (a number, a text), a def as a value -/
theorem j_glob {v : V} (h : ∃ u, X.mg x = some u ∧ RelV v u) (hg : Gl X x := by rfl) (hd : (x == ("__debug__" : Str)) = false := by decide) : JE X (.Name x pos) (tC v) (mC v) := by
  obtain ⟨u, h1, h2⟩ := h
  exact ⟨pe_glob hg h1 h2 hd, em_c⟩
/-- a module's tuple or list -/
theorem j_globD {v : V} {d : D} (h : (∃ u, X.mg x = some u ∧ RelV v u) ∧ ∀ G, Rp X.K G v d) (hg : Gl X x := by rfl) (hd : (x == ("__debug__" : Str)) = false := by decide) {K : PySem.W.Frag} (hK : X.K = K := by rfl) : JE X (.Name x pos) (tC v) (mK d) := by
  subst hK
  obtain ⟨⟨u, h1, h2⟩, h3⟩ := h
  exact ⟨pe_glob hg h1 h2 hd, em_k h3⟩
/-! ### operators -/
theorem j_op {op : Operator} {r : R2} {f : D → D → Option D} (ho : OpR X (binaryOp op) r) (hr : R2M X.K r f) (ha : JE X a ta ma) (hb : JE X b tb mb) : JE X (.BinOp a op b pos) (tOp r ta tb) (mOp f ma mb) := ⟨pe_op ho ha.p hb.p, em_op hr ha.m hb.m⟩
theorem j_add (ha : JE X a ta ma) (hb : JE X b tb mb) {K : PySem.W.Frag} (hK : X.K = K := by rfl) : JE X (.BinOp a .Add b pos) (tOp (rAddD K) ta tb) (mOp addD ma mb) := by
  subst hK
  exact j_op op_addD r2_add ha hb
theorem j_sub (ha : JE X a ta ma) (hb : JE X b tb mb) : JE X (.BinOp a .Sub b pos) (tOp (rI0 fun i j => .int (i - j)) ta tb) (mOp subD ma mb) := j_op op_sub r2_sub ha hb
theorem j_mul (ha : JE X a ta ma) (hb : JE X b tb mb) : JE X (.BinOp a .Mult b pos) (tOp (rI CMul fun i j => .int (i * j)) ta tb) (mOp mulD ma mb) := j_op op_mul r2_mul ha hb
theorem j_fdiv (ha : JE X a ta ma) (hb : JE X b tb mb) : JE X (.BinOp a .FloorDiv b pos) (tOp (rI CDiv fun i j => .int (i / j)) ta tb) (mOp fdivD ma mb) := j_op op_fdiv r2_fdiv ha hb
theorem j_mod (ha : JE X a ta ma) (hb : JE X b tb mb) : JE X (.BinOp a .Mod b pos) (tOp (rI (fun _ j => 0 < j) fun i j => .int (i % j)) ta tb) (mOp modD ma mb) := j_op op_mod r2_mod ha hb
theorem j_pow (ha : JE X a ta ma) (hb : JE X b tb mb) : JE X (.BinOp a .Pow b pos) (tOp (rI CPow fun i j => .int (i ^ j.toNat)) ta tb) (mOp powD ma mb) := j_op op_pow r2_pow ha hb
theorem j_neg (ha : JE X a ta ma) : JE X (.UnaryOp .USub a pos) (tUn (rU fun i => .int (-i)) ta) (mUn negD ma) := ⟨pe_un un_neg ha.p, em_un r1_neg ha.m⟩
/-- comparisons: the rule of the operator with its meaning -/
structure CR (X : Cx) (op : CmpOp) (r : R2) (f : D → D → Option D) : Prop where
  o : OpR X (compareOp op) r
  m : R2M X.K r f
theorem room65 (hr : Room j X.A) (hj : 1 ≤ j) : X.A.units + 65 < cLine := by have := hr.un; omega
theorem c_eq (hr : Room j X.A) {K : PySem.W.Frag} (hK : X.K = K := by rfl) : CR X .Eq (rEqDD K) eqD := by
  subst hK
  exact ⟨op_eqDD hr.units, r2_eq⟩
theorem c_ne (hr : Room j X.A) {K : PySem.W.Frag} (hK : X.K = K := by rfl) : CR X .NotEq (rNeDD K) neD := by
  subst hK
  exact ⟨op_neDD hr.units, r2_ne⟩
theorem c_lt (hr : Room j X.A) {K : PySem.W.Frag} (hK : X.K = K := by rfl) : CR X .Lt (rOrd K (fun i j => decide (i < j)) (fun x y => decide (x < y)) HT.lexLt) ltD := by
  subst hK
  exact ⟨op_ltD hr.units0, r2_lt⟩
theorem c_le (hr : Room j X.A) {K : PySem.W.Frag} (hK : X.K = K := by rfl) : CR X .LtE (rOrd K (fun i j => decide (i ≤ j)) (fun x y => !decide (y < x)) lexLe) leD := by
  subst hK
  exact ⟨op_leD hr.units0, r2_le⟩
theorem c_gt : CR X .Gt (rI0 fun i j => .bl (decide (j < i))) gtD := ⟨op_gt, r2_gt⟩
theorem c_ge : CR X .GtE (rI0 fun i j => .bl (decide (j ≤ i))) geD := ⟨op_ge, r2_ge⟩
theorem c_is : CR X .Is (fun x y H Q => y = .non ∧ Q (.bl (decide (x = .non))) H) isND := ⟨op_isN, r2_isN⟩
theorem c_isnot : CR X .IsNot (fun x y H Q => y = .non ∧ Q (.bl (!decide (x = .non))) H) notND := ⟨op_notN, r2_notN⟩
theorem c_in (hr : Room (j + 1) X.A) {K : PySem.W.Frag} (hK : X.K = K := by rfl) : CR X .In (rMem K id) inD := by
  subst hK
  exact ⟨op_inDD (room65 hr (by omega)), r2_in⟩
theorem c_nin (hr : Room (j + 1) X.A) {K : PySem.W.Frag} (hK : X.K = K := by rfl) : CR X .NotIn (rMem K (!·)) ninD := by
  subst hK
  exact ⟨op_ninDD (room65 hr (by omega)), r2_nin⟩
theorem j_cmp {op : CmpOp} {r : R2} {f : D → D → Option D} (h : CR X op r f) (ha : JE X a ta ma) (hb : JE X b tb mb) (hm : behindInMarks op b = false := by first | exact nomark _ | rfl) : JE X (.Compare a [op] [b] pos) (tOp r ta tb) (mOp f ma mb) :=
  ⟨pe_cmpR h.o ha.p hb.p hm, em_op h.m ha.m hb.m⟩
theorem t_cmp {op : CmpOp} {r : R2} {f : D → D → Option D} (h : CR X op r f) (ha : JE X a ta ma) (hb : JE X b tb mb) (hm : behindInMarks op b = false := by first | exact nomark _ | rfl) : JT X (.Compare a [op] [b] pos) (tTest (tOp r ta tb)) (mTest (mOp f ma mb)) :=
  ⟨pt_cmpR h.o ha.p hb.p hm, tm_test (em_op h.m ha.m hb.m)⟩
theorem j_chain {op op' : CmpOp} {r r' : R2} {f g : D → D → Option D} (h : CR X op r f) (h' : CR X op' r' g) (ha : JE X a ta ma) (hb : JE X b tb mb) (hc : JE X c tc mc) (hm : lastMarks [op, op'] [b, c] = false := by with_unfolding_all rfl) :
    JE X (.Compare a [op, op'] [b, c] pos) (tChain r r' ta tb tc) (mChain f g ma mb mc) := ⟨pe_chain h.o h'.o ha.p hb.p hc.p hm, em_chain h.m h'.m ha.m hb.m hc.m⟩
theorem t_chain {op op' : CmpOp} {r r' : R2} {f g : D → D → Option D} (h : CR X op r f) (h' : CR X op' r' g) (ha : JE X a ta ma) (hb : JE X b tb mb) (hc : JE X c tc mc) (hm : lastMarks [op, op'] [b, c] = false := by with_unfolding_all rfl) :
    JT X (.Compare a [op, op'] [b, c] pos) (tTest (tChain r r' ta tb tc)) (mTest (mChain f g ma mb mc)) := ⟨pt_chain h.o h'.o ha.p hb.p hc.p hm, tm_test (em_chain h.m h'.m ha.m hb.m hc.m)⟩
/-! ### and, or, not, if -/
theorem j_one {op : BoolOp} (h : JE X a ta ma) : JE X (.BoolOp op [a] pos) ta ma := ⟨pe_one h.p, h.m⟩
theorem j_and {rest : List Expr} (ha : JE X a ta ma) (hb : JE X (.BoolOp .And (b :: rest) pos) tb mb) : JE X (.BoolOp .And (a :: b :: rest) pos) (tAndV ta tb) (mAndV ma mb) := ⟨pe_and ha.p hb.p, em_andV ha.m hb.m⟩
theorem j_or {rest : List Expr} (ha : JE X a ta ma) (hb : JE X (.BoolOp .Or (b :: rest) pos) tb mb) : JE X (.BoolOp .Or (a :: b :: rest) pos) (tOrV ta tb) (mOrV ma mb) := ⟨pe_or ha.p hb.p, em_orV ha.m hb.m⟩
theorem j_not (ha : JE X a ta ma) : JE X (.UnaryOp .Not a pos) (tNotV ta) (mNotV ma) := ⟨pe_not ha.p, em_notV ha.m⟩
theorem w_and1 (h : JT X a tt mt) : JW X (.BoolOp .And [a] pos) tt mt := ⟨pw_and1 h.p, h.m⟩
theorem w_or1 (h : JT X a tt mt) : JW X (.BoolOp .Or [a] pos) tt mt := ⟨pw_or1 h.p, h.m⟩
theorem w_and {rest : List Expr} (h : JT X a tt mt) (h2 : JW X (.BoolOp .And (b :: rest) pos) tu mu) : JW X (.BoolOp .And (a :: b :: rest) pos) (tAnd tt tu) (mAnd mt mu) := ⟨pw_and h.p h2.p, tm_and h.m h2.m⟩
theorem w_or {rest : List Expr} (h : JT X a tt mt) (h2 : JW X (.BoolOp .Or (b :: rest) pos) tu mu) : JW X (.BoolOp .Or (a :: b :: rest) pos) (tOr tt tu) (mOr mt mu) := ⟨pw_or h.p h2.p, tm_or h.m h2.m⟩
theorem t_w (h : JW X e tt mt) : JT X e tt mt := ⟨h.p.pt, h.m⟩
theorem t_not (h : JT X a tt mt) : JT X (.UnaryOp .Not a pos) (tNot tt) (mNot mt) := ⟨pt_not h.p, tm_not h.m⟩
theorem t_val (h : JE X e te me) (he : ∀ whole, isTrue e X.env whole = (do let v ← whole; standAt e.pos; holding [v] (truthy v)) := by intro _; rfl) : JT X e (tB te) (mTest me) := ⟨pt_val h.p he, tm_B h.m⟩
def tTru (K : PySem.W.Frag) (ta : TE) : TT := fun σ H Q => ta σ H fun x H' => ∃ k, TruV K x H' k ∧ Q k H'
def mTru (m : ME) : MT := fun ρ => (m ρ).bind truD
theorem t_tru (h : JE X e te me) (he : ∀ whole, isTrue e X.env whole = (do let v ← whole; standAt e.pos; holding [v] (truthy v)) := by intro _; rfl) {K : PySem.W.Frag} (hK : X.K = K := by rfl) : JT X e (tTru K te) (mTru me) := by
  subst hK
  refine ⟨pt_truth h.p he, fun ρ k q G0 H0 G H σ c Q z => ?_⟩
  obtain ⟨d, e1, q⟩ := Option.bind_eq_some_iff.mp q
  exact h.m ρ d e1 G0 H0 G H σ c _ fun v G' H' w r => ⟨k, tru_of w.s r q, z G' H' w⟩
theorem j_if (h : JT X c tt mt) (ha : JE X a ta ma) (hb : JE X b tb mb) : JE X (.IfExp c a b pos) (tIf tt ta tb) (mIf mt ma mb) := ⟨pe_ifExp h.p ha.p hb.p, em_if h.m ha.m hb.m⟩
/-! ### items, slices, displays -/
theorem j_ix (ha : JE X a ta ma) (hb : JE X b tb mb) (hs : PlainIx b := by exact fun _ _ => rfl) {K : PySem.W.Frag} (hK : X.K = K := by rfl) : JE X (.Subscript a b pos) (tOp (rIx K) ta tb) (mOp ixD ma mb) := by
  subst hK
  exact ⟨pe_ix ix_seq ha.p hb.p hs, em_op r2_ix ha.m hb.m⟩
theorem o_none : JO X none tNoPart mNoPart := ⟨po_none, om_none⟩
theorem o_some (h : JE X e te me) : JO X (some e) (tPart te) (mPart me) := ⟨po_some h.p, om_some h.m⟩
theorem j_sl {lo hi : Option Expr} {to th : TO} {mo mh : MO} (he : JE X e te me) (hl : JO X lo to mo) (hu : JO X hi th mh) {K : PySem.W.Frag} (hK : X.K = K := by rfl) : JE X (.Subscript e (.Slice lo hi none p2) pos) (tSl (rSlAny K) te to th) (mSl slD me mo mh) := by
  subst hK
  exact ⟨pe_slice sl_any he.p hl.p hu.p, em_sl rs_sl he.m hl.m hu.m⟩
theorem j_rev {q1 q2 q3 : Pos} (he : JE X e te me) {K : PySem.W.Frag} (hK : X.K = K := by rfl) : JE X (.Subscript e (.Slice none none (some (.UnaryOp .USub (.Constant (.int 1) k q1) q2)) q3) pos) (tRevL K te) (mRev me) := by
  subst hK
  exact ⟨pe_revL he.p, em_rev he.m⟩
theorem a_nil : JA X [] tNil mNil := ⟨pa_nil, am_nil⟩
theorem a_cons (h : JE X e te me) (hr : JA X es tl ml) (hs : starEach (e :: es) X.env = (false, eval e X.env) :: starEach es X.env := by rfl) : JA X (e :: es) (tCons te tl) (mCons me ml) := ⟨pa_cons h.p hr.p hs, am_cons h.m hr.m⟩
theorem f_lst (h : JA X es tl ml) : JF X (.List es pos) (tLst tl) (few ml) := ⟨pe_lst h.p, fm_lst h.m⟩
def mLst (m : MA) : ME := fun ρ => (m ρ).map .lst
theorem j_f {m : MA} (h : JF X e te m) : JE X e te (mLst m) := ⟨h.p, em_fresh h.m⟩
def mTup (m : MA) : ME := fun ρ => (few m ρ).map .tup
theorem j_tup {n : Nat} (h : JA X es tl ml) : JE X (.Tuple es n pos) (tTup tl) (mTup ml) := ⟨pe_tup h.p, em_tup h.m⟩
/-! ### calls of built-ins -/
structure BR (X : Cx) (f : Value) (r : List V → Hp → VK → Prop) (g : List D → Option D) : Prop where
  o : CallR X f r
  m : RCM X.K r g
theorem j_cb {id : String} {r : List V → Hp → VK → Prop} {f : List D → Option D} (h : BR X (.builtin id) r f) (hm : X.mg x = none) (ha : JA X (e :: es) tl ml) (hv : bootBuiltins x = some (.builtin id) := by decide +kernel) (hg : Gl X x := by rfl) (hn : x ≠ "__name__" := by decide) (hdb : (x == ("__debug__" : Str)) = false := by decide)
    (he : starEach (e :: es) X.env = (false, eval e X.env) :: starEach es X.env := by rfl) (hpl : (backTo pos (starEach es X.env)).any (·.1) = false := by rfl) : JE X (.Call (.Name x p2) (e :: es) [] pos) (tCB r tl) (mCall f ml) :=
  ⟨pe_callB h.o hg hm hv ha.p hn hdb he hpl, em_cb h.m ha.m⟩
theorem j_ct {id : String} {r : List V → Hp → VK → Prop} {f : List D → Option D} (h : BR X (.type id) r f) (hm : X.mg x = none) (ha : JA X (e :: es) tl ml) (hv : bootBuiltins x = some (.type id) := by decide +kernel) (hg : Gl X x := by rfl) (hn : x ≠ "__name__" := by decide) (hdb : (x == ("__debug__" : Str)) = false := by decide)
    (he : starEach (e :: es) X.env = (false, eval e X.env) :: starEach es X.env := by rfl) (hpl : (backTo pos (starEach es X.env)).any (·.1) = false := by rfl) : JE X (.Call (.Name x p2) (e :: es) [] pos) (tCB r tl) (mCall f ml) :=
  ⟨pe_callTy h.o hg hm hv ha.p hn hdb he hpl, em_cb h.m ha.m⟩
theorem b_len {K : PySem.W.Frag} (hK : X.K = K := by rfl) : BR X (.builtin "len") (fun xs H Q => ∃ x n, xs = [x] ∧ LenV K x H n ∧ Q (.int n) H) lenD := by
  subst hK
  exact ⟨call_len, rc_len⟩
theorem b_str : BR X (.type "str") (fun xs H Q => ∃ i, xs = [.int i] ∧ i.natAbs.log2 < 1920 ∧ Q (.str (toString i)) H) strD := ⟨call_str_int, rc_str⟩
theorem b_int : BR X (.type "int") rIntC intF := ⟨call_intD, rc_int⟩
theorem b_tuple {K : PySem.W.Frag} (hK : X.K = K := by rfl) : BR X (.type "tuple") (fun xs H Q => ∃ p ys, xs = [.ref p] ∧ ((SqL K H p ys ∧ ∀ l, H l = none → Q (.ref l) (upd H l (.tup ys))) ∨ (SqT K H p ys ∧ Q (.ref p) H))) tupleD := by
  subst hK
  exact ⟨call_tuple_of, rc_tuple⟩
theorem b_list {K : PySem.W.Frag} (hK : X.K = K := by rfl) : BR X (.type "list") (fun xs H Q => ∃ p ys, xs = [.ref p] ∧ (SqL K H p ys ∨ SqT K H p ys) ∧ ∀ l, H l = none → Q (.ref l) (upd H l (.lst ys))) listD := by
  subst hK
  exact ⟨call_list_of, rc_list⟩
theorem b_all (hc : X.calm = true := by rfl) {K : PySem.W.Frag} (hK : X.K = K := by rfl) : BR X (.builtin "all") (rAll K) allD := by
  subst hK
  exact ⟨cr_all hc, rc_all⟩
/-! ### methods of texts -/
structure MR (X : Cx) (T : String) (name : Str) (id : String) (r : V → List V → Hp → VK → Prop) (g : D → List D → Option D) : Prop where
  pa : PlainAttrs T
  slot : PySem.Slot T name id
  ty : typeOf (.builtin id) = pure (.type "method_descriptor")
  o : MtR X id r
  m : RMM X.K T r g
theorem j_bm {T id : String} {name : Str} {apos : Pos} {r : V → List V → Hp → VK → Prop} {f : D → List D → Option D} (h : MR X T name id r f) (ho : JE X o ta ma) (ha : JA X (e :: es) tl ml) (hbase : attributeBase o name X.env (eval o X.env) = eval o X.env := by rfl)
    (hfew : ((backTo pos (starEach (e :: es) X.env)).all (fun x => !x.1) && (backToKw pos (keywordEach [] X.env)).all (fun x => x.1.isSome)
      && decide ((e :: es).length + ([] : List Keyword).length + (if ([] : List Keyword).isEmpty then 0 else 1) < 30)) = true := by rfl)
    (hline : (apos.endLine == pos.line) = true := by rfl) (hs : starEach (e :: es) X.env = (false, eval e X.env) :: starEach es X.env := by rfl) (hplain : (backTo pos (starEach es X.env)).any (·.1) = false := by rfl) {K : PySem.W.Frag} (hK : X.K = K := by rfl) :
    JE X (.Call (.Attribute o name apos) (e :: es) [] pos) (tBM K T r ta tl) (mMeth f ma ml) := by
  subst hK
  exact ⟨pe_bm h.pa h.slot h.ty h.o ho.p ha.p hbase hfew hline hs hplain, em_bm h.m ho.m ha.m⟩
theorem m_split {K : PySem.W.Frag} (hK : X.K = K := by rfl) : MR X "str" "split" "str.split" (fun x xs H Q => ∃ a b, x = .str a ∧ xs = [.str b] ∧ (b.length == 0) = false ∧ a.length + 2 ≤ sizeLine ∧ rNewStrs (Txt.split a b) H Q) splitD := by
  subst hK
  exact ⟨PySem.F.plainAttrs_str, PySem.F.slot_str_split, PySem.F.type_str_split, mt_split, rm_split⟩
theorem m_join {K : PySem.W.Frag} (hK : X.K = K := by rfl) : MR X "str" "join" "str.join" (fun x xs H Q => ∃ a p, ∃ ys : List Str, x = .str a ∧ xs = [.ref p] ∧ (SqL K H p (ys.map V.str) ∨ SqT K H p (ys.map V.str)) ∧
    (ys.map (·.length)).sum + ys.length * a.length ≤ 16777216 ∧ Q (.str (Txt.join a ys)) H) joinD := by
  subst hK
  exact ⟨PySem.F.plainAttrs_str, PySem.F.slot_str_join, PySem.F.type_str_join, mt_join, rm_join⟩
/-! ### statements -/
variable {t u : TS} {m n : MS} {st : Stmt} {sts sts2 : List Stmt}
theorem b_nil : JB X W [] tNext mNext := ⟨pss_nil, sm_next⟩
theorem b_cons (h : JS X W st t m) (h2 : JB X W sts u n) : JB X W (st :: sts) (tSeq t u) (mSeq m n) := ⟨pss_cons h.p h2.p, sm_seq h.m h2.m⟩
theorem b_one (h : JS X W st t m) : JB X W [st] t m := ⟨pss_one h.p, h.m⟩
theorem b_frz (i : Nat) (h : JB X W sts t m) : JB X W sts t (fun ρ => m (frz i ρ)) := ⟨h.p, sm_frz h.m⟩
theorem s_frz (i : Nat) (h : JS X W st t m) : JS X W st t (fun ρ => m (frz i ρ)) := ⟨h.p, sm_frz h.m⟩
theorem s_set (i : Nat) {p' : Pos} (hN : X.N.Nodup) (he : JE X e te me) (hi : X.N[i]? = some x := by rfl) (hx : Loc X.env.scope x := by first | exact .inl rfl | exact .inr rfl) (hs : swapsWith e (some (.Name x p')) pos.line X.env = pure false := by rfl) (hf : X.fn x = true ∨ X.env.scope.names.lookup x = some .local := by first | exact .inl rfl | exact .inr rfl) :
    JS X W (.Assign [.Name x p'] e pos) (tAsg te (gName i)) (mAsg i me) := ⟨ps_set hN hi hx he.p hs hf, sm_asg he.m⟩
theorem s_setO (i : Nat) {p' : Pos} {m : MA} (hN : X.N.Nodup) (he : JF X e te m) (hi : X.N[i]? = some x := by rfl) (hx : Loc X.env.scope x := by first | exact .inl rfl | exact .inr rfl) (hs : swapsWith e (some (.Name x p')) pos.line X.env = pure false := by rfl) (hf : X.fn x = true ∨ X.env.scope.names.lookup x = some .local := by first | exact .inl rfl | exact .inr rfl) :
    JS X W (.Assign [.Name x p'] e pos) (tAsg te (gName i)) (mAsgO i m) := ⟨ps_set hN hi hx he.p hs hf, sm_asgO he.m⟩
theorem s_ret (he : JE X e te me) : JS X W (.Return (some e) pos) (tRet te) (mRet me) := ⟨ps_ret he.p, sm_ret he.m⟩
theorem s_retN : JS X W (.Return none pos) tRetN mRetN := ⟨ps_retN, sm_retN⟩
theorem s_if (hc : JT X c tt mt) (h1 : JB X W sts t m) (h2 : JB X W sts2 u n) : JS X W (.If c sts sts2 pos) (tIfS tt t u) (mIfS mt m n) := ⟨ps_if hc.p h1.p h2.p, sm_if hc.m h1.m h2.m⟩
theorem s_expr (he : JE X e te me) (hs : swapsWith e none pos.line X.env = pure false := by rfl) : JS X W (.Expr e pos) (tDrop te) (mDrop me) := ⟨ps_expr he.p hs, sm_drop he.m⟩
theorem s_break : JS X W (.Break pos) tBreak mBreak := ⟨ps_break, sm_break⟩
theorem s_cont : JS X W (.Continue pos) tCont mCont := ⟨ps_continue, sm_cont⟩
theorem s_app (i : Nat) {apos : Pos} (he : JE X e te me) (hN : X.N[i]? = some x := by rfl) (hv : Vis X.env.scope x := by first | exact Or.inl rfl | exact Or.inr (Or.inl rfl) | exact Or.inr (Or.inr rfl)) (hd : (x == ("__debug__" : Str)) = false := by decide)
    (hcd : (x == ("__classdict__" : Str)) = false := by decide) (hbase : attributeBase (.Name x p2) "append" X.env (eval (.Name x p2) X.env) = eval (.Name x p2) X.env := by rfl)
    (hfew : ((backTo pos (starEach [e] X.env)).all (fun x => !x.1) && (backToKw pos (keywordEach [] X.env)).all (fun x => x.1.isSome)
      && decide ([e].length + ([] : List Keyword).length + (if ([] : List Keyword).isEmpty then 0 else 1) < 30)) = true := by rfl)
    (hline : (apos.endLine == pos.line) = true := by rfl) (hst : starEach [e] X.env = (false, eval e X.env) :: starEach [] X.env := by rfl) (hplain : (backTo pos (starEach [] X.env)).any (·.1) = false := by rfl)
    (hs : swapsWith (.Call (.Attribute (.Name x p2) "append" apos) [e] [] pos) none p3.line X.env = pure false := by rfl) {K : PySem.W.Frag} (hK : X.K = K := by rfl) :
    JS X W (.Expr (.Call (.Attribute (.Name x p2) "append" apos) [e] [] pos) p3) (tDrop (tBM K "list" rAppend (tVar i) (tCons te tNil))) (mApp i me) := by
  subst hK
  exact ⟨ps_expr (pe_bm PySem.F.plainAttrs_list PySem.F.slot_list_append PySem.F.type_list_append mt_append (pe_var hN hv hd hcd) (pa_cons he.p pa_nil hst) hbase hfew hline hst hplain) hs, sm_app he.m⟩
theorem s_par (i j : Nat) {x y : Str} {px py pt : Pos} {kt k2 : Nat} {pt2 : Pos} (hN : X.N.Nodup) (ha : JA X [a, b] tl ml) (hw : swappedStores [.Tuple [.Name x px, .Name y py] kt pt] (.Tuple [a, b] k2 pt2) X.env = pure (some [x, y]) := by rfl) (hi : X.N[i]? = some x := by rfl) (hj : X.N[j]? = some y := by rfl) (hij : i ≠ j := by decide)
    (hx : X.env.scope.names.lookup x = some .local := by rfl) (hy : X.env.scope.names.lookup y = some .local := by rfl) (hc : X.calm = true := by rfl)
    (hs : swapsWithSole [.Tuple [.Name x px, .Name y py] kt pt] (.Tuple [a, b] k2 pt2) pos.line X.env = pure false := by rfl) :
    JS X W (.Assign [.Tuple [.Name x px, .Name y py] kt pt] (.Tuple [a, b] k2 pt2) pos) (tPar i j tl) (mPar i j ml) := ⟨ps_par hc hN hi hj hij hx hy ha.p hw hs, sm_par ha.m⟩
theorem s_augAdd (i : Nat) {p' : Pos} (hN : X.N.Nodup) (he : JE X e te me) (hi : X.N[i]? = some x := by rfl) (hx : Loc X.env.scope x := by first | exact .inl rfl | exact .inr rfl) (hf : X.fn x = true ∨ X.env.scope.names.lookup x = some .local := by first | exact .inl rfl | exact .inr rfl) :
    JS X W (.AugAssign (.Name x p') .Add e pos) (tAug i te (rI0 fun i j => .int (i + j))) (mAug i (int0D fun i j => .int (i + j)) me) := ⟨ps_aug hN hi hx he.p ip_add hf, sm_aug r2_int0 he.m⟩
/-- the def's own list read for a moment, the answer a flat value -/
theorem frz_cfg {K : PySem.W.Frag} {G0 H0 G H : Hp} {σ : L2.St} {ρ : DEnv} (i : Nat) (c : Cfg K G0 H0 G H σ ρ) : ∃ G', Cfg K G0 H0 G' H σ (frz i ρ) := by
  unfold frz
  split
  · rename_i ds hi
    obtain ⟨G', _, c'⟩ := c.frz hi
    exact ⟨G', c'⟩
  · exact ⟨G, c⟩
theorem t_brw (i : Nat) (h : JT X e tt mt) : JT X e tt (fun ρ => mt (frz i ρ)) := ⟨h.p, fun ρ b q G0 H0 G H σ c Q z => by
  obtain ⟨G', c'⟩ := frz_cfg i c
  exact h.m _ b q G0 H0 G' H σ c' Q fun G2 H2 w => z G H2 ⟨Ex.refl G, w.h, c.sub.trans w.h, fun _ _ h => h⟩⟩
def flatO (o : Option D) : Option D := o.bind fun d => match d with
  | .val v => some (.val v)
  | _ => none
theorem j_brw (i : Nat) (h : JE X e te me) : JE X e te (fun ρ => flatO (me (frz i ρ))) := ⟨h.p, fun ρ d q G0 H0 G H σ c Q z => by
  obtain ⟨d', e1, q⟩ := Option.bind_eq_some_iff.mp q
  obtain ⟨G', c'⟩ := frz_cfg i c
  split at q
  · cases q
    refine h.m _ _ e1 G0 H0 G' H σ c' Q fun v G2 H2 w r => z v G H2 ⟨Ex.refl G, w.h, c.sub.trans w.h, fun _ _ h => h⟩ ?_
    cases rp_val r
    exact .val _
  · cases q⟩
/-! ### targets, what is walked, loops -/
theorem g_name (i : Nat) (hN : X.N.Nodup) (hi : X.N[i]? = some x := by rfl) (hx : Loc X.env.scope x := by first | exact .inl rfl | exact .inr rfl) (hf : X.fn x = true ∨ X.env.scope.names.lookup x = some .local := by first | exact .inl rfl | exact .inr rfl) : JG X (.Name x pos) (gName i) [i] (gN i) := ⟨pg_name hN hi hx hf, gm_name⟩
theorem gs_nil : JGs X [] gNil [] := ⟨pgs_nil, gsm_nil⟩
theorem gs_cons (i : Nat) {g : TGs} {js : List Nat} (hN : X.N.Nodup) (h : JGs X es g js) (hi : X.N[i]? = some x := by rfl) (hx : Loc X.env.scope x := by first | exact .inl rfl | exact .inr rfl) (hf : X.fn x = true ∨ X.env.scope.names.lookup x = some .local := by first | exact .inl rfl | exact .inr rfl)
    (hs : (assignEach (.Name x pos :: es) X.env).map (·.2) = assign (.Name x pos) X.env :: (assignEach es X.env).map (·.2) := by rfl) : JGs X (.Name x pos :: es) (gCons (gName i) g) (i :: js) := ⟨pgs_cons (pg_name hN hi hx hf) h.p hs, gsm_cons h.m⟩
theorem g_tup {g : TGs} {js : List Nat} {k : Nat} (h : JGs X es g js) (hn : (assignEach es X.env).length = js.length := by rfl) (hst : (assignEach es X.env).findIdx? (·.1) = none := by rfl) (hc : X.calm = true := by rfl) {K : PySem.W.Frag} (hK : X.K = K := by rfl) : JG X (.Tuple es k pos) (gTup K js.length g) js (gT js) := by
  subst hK
  exact ⟨pg_tup hc h.p hn hst, gm_tup h.m rfl⟩
theorem s_asgG {tg : Expr} {g : TG} {js : List Nat} {f : D → DEnv → Option DEnv} (hg : JG X tg g js f) (he : JE X e te me) (hs : swapsWithSole [tg] e pos.line X.env = pure false := by rfl) (hw : swappedStores [tg] e X.env = pure none := by rfl)
    (h1 : (assignEach [tg] X.env).map (·.2) = [assign tg X.env] := by rfl) : JS X W (.Assign [tg] e pos) (tAsg te g) (mAsgG f me) := ⟨ps_asg he.p hg.p hs hw h1, sm_asgG hg.m he.m⟩
theorem pi_or {tg it : Expr} {w w' : TI} (h : PI X tg it w) (h' : PI X tg it w') : PI X tg it (fun σ H R => w σ H R ∨ w' σ H R) :=
  ⟨fun pins s σ H R I q => q.elim (h.run pins s σ H R I) (h'.run pins s σ H R I)⟩
theorem i_any {tg : Expr} (he : JE X e te me) {K : PySem.W.Frag} (hK : X.K = K := by rfl) : JI X tg e (iAny K te) (mItems me) := by
  subst hK
  exact ⟨pi_or (pi_list he.p) (pi_or (pi_tup he.p) (pi_str he.p)), im_any he.m⟩
theorem i_range1 {tg : Expr} (hm : X.mg "range" = none) (ha : JA X [a] tl ml) (hg : Gl X "range" := by rfl) (hs : starEach [a] X.env = [(false, eval a X.env)] := by rfl) : JI X tg (.Call (.Name "range" p2) [a] [] pos) (iRng1 tl) (mRange1 ml) := by
  refine ⟨pi_range1 hg hm ha.p hs, fun ρ ds q G0 H0 G H σ c R z => ?_⟩
  obtain ⟨es, e1, q⟩ := Option.bind_eq_some_iff.mp q
  split at q
  · split at q
    · rename_i n hn
      cases q
      refine ha.m ρ _ e1 G0 H0 G H σ c _ fun vs G' H' w r => ?_
      obtain ⟨v, rfl, r0⟩ := rps_one r
      cases rp_val r0
      exact ⟨_, rfl, hn.1, hn.2, z _ G' H' w walk_rangeD⟩
    · cases q
  · cases q
theorem i_range2 {tg : Expr} (hm : X.mg "range" = none) (ha : JA X [a, b] tl ml) (hg : Gl X "range" := by rfl) (hs : starEach [a, b] X.env = [(false, eval a X.env), (false, eval b X.env)] := by rfl) (hs2 : starEach [b] X.env = [(false, eval b X.env)] := by rfl) : JI X tg (.Call (.Name "range" p2) [a, b] [] pos) (iRng2 tl) (mRange2 ml) := by
  refine ⟨pi_range2 hg hm ha.p hs hs2, fun ρ ds q G0 H0 G H σ c R z => ?_⟩
  obtain ⟨es, e1, q⟩ := Option.bind_eq_some_iff.mp q
  split at q
  · split at q
    · rename_i hn
      cases q
      refine ha.m ρ _ e1 G0 H0 G H σ c _ fun vs G' H' w r => ?_
      obtain ⟨v, v2, rfl, r0, r1⟩ := rps_two r
      cases rp_val r0
      cases rp_val r1
      exact ⟨_, _, rfl, ⟨hn.1.1, hn.1.2, hn.2.1, hn.2.2⟩, z _ G' H' w walk_rangeD⟩
    · cases q
  · cases q
def mZip (m : MA) : MA := fun ρ => (m ρ).bind fun ds => match ds with
  | [.lst as, .lst bs] => some (zipD as bs)
  | _ => none
theorem i_zip {elts : List Expr} {kk : Nat} {tpos : Pos} (hm : X.mg "zip" = none) (ha : JA X [a, b] tl ml) (hg : Gl X "zip" := by rfl) (hs : starEach [a, b] X.env = (false, eval a X.env) :: starEach [b] X.env := by rfl) (hpl : (backTo pos (starEach [b] X.env)).any (·.1) = false := by rfl) {K : PySem.W.Frag} (hK : X.K = K := by rfl) :
    JI X (.Tuple elts kk tpos) (.Call (.Name "zip" p2) [a, b] [] pos) (iZip K tl) (mZip ml) := by
  subst hK
  refine ⟨pi_zip hg hm ha.p hs hpl, fun ρ ds q G0 H0 G H σ c R z => ?_⟩
  obtain ⟨es, e1, q⟩ := Option.bind_eq_some_iff.mp q
  split at q
  · cases q
    refine ha.m ρ _ e1 G0 H0 G H σ c _ fun vs G' H' w r => ?_
    obtain ⟨v, v2, rfl, r0, r1⟩ := rps_two r
    obtain ⟨q1, us, rfl, h1, s1⟩ := rp_lst r0
    obtain ⟨q2, us2, rfl, h2, s2⟩ := rp_lst r1
    exact ⟨q1, q2, us, us2, rfl, ex_l w.s h1, ex_l w.s h2, z _ G' H' w (walk_zipD h1 h2 s1 s2)⟩
  · cases q
def mEnum (m : MA) : MA := fun ρ => (m ρ).bind fun ds => match ds with
  | [.lst as] => some (enumD as)
  | _ => none
theorem i_enum {elts : List Expr} {kk : Nat} {tpos : Pos} (hm : X.mg "enumerate" = none) (ha : JA X [a] tl ml) (hg : Gl X "enumerate" := by rfl) (hs : starEach [a] X.env = [(false, eval a X.env)] := by rfl) {K : PySem.W.Frag} (hK : X.K = K := by rfl) :
    JI X (.Tuple elts kk tpos) (.Call (.Name "enumerate" p2) [a] [] pos) (iEnum K tl) (mEnum ml) := by
  subst hK
  refine ⟨pi_enum hg hm ha.p hs, fun ρ ds q G0 H0 G H σ c R z => ?_⟩
  obtain ⟨es, e1, q⟩ := Option.bind_eq_some_iff.mp q
  split at q
  · cases q
    refine ha.m ρ _ e1 G0 H0 G H σ c _ fun vs G' H' w r => ?_
    obtain ⟨v, rfl, r0⟩ := rps_one r
    obtain ⟨q1, us, rfl, h1, s1⟩ := rp_lst r0
    exact ⟨q1, us, rfl, ex_l w.s h1, z _ G' H' w (walk_enumD h1 s1)⟩
  · cases q
theorem s_for {tg it : Expr} {wi : TI} {mi : MA} {g : TG} {js : List Nat} {f : D → DEnv → Option DEnv} (hp : PassesOwn (model X.prog X.w) X.A X.env X.xe) (hi : JI X tg it wi mi) (hg : JG X tg g js f) (hb : JB X W sts t m) (hc : X.calm = true := by rfl)
    (hs : ∀ x, foldedSetIterable it X.env x = pure x := by intro _; rfl) : JS X W (.For tg it sts [] pos) (tFor wi g t) (mFor mi f m) := ⟨ps_for hp hc hi.p hg.p hb.p hs, sm_for hi.m hg.m hb.m⟩
theorem s_while (n : Nat) (hp : PassesOwn (model X.prog X.w) X.A X.env X.xe) (hc : JT X c tt mt) (hb : JB X W sts t m) : JS X W (.While c sts [] pos) (tWhile tt t) (whileN mt m n) := ⟨ps_while hp hc.p hb.p, sm_while hc.m hb.m⟩
theorem ts_nil : JTs X [] tYes mYes := ⟨pts_nil, tm_yes⟩
theorem ts_one (h : JT X c tt mt) : JTs X [c] tt mt := ⟨pts_one h.p, h.m⟩
/-! ### comprehensions -/
theorem f_lc {elt tg it : Expr} {ifs : List Expr} {scope : Scope} {own : List (Str × Nat)} {wi : TI} {mi : MA} {g : TG} {js : List Nat} {f : D → DEnv → Option DEnv} (hN : X.N.Nodup) (hi : JI X tg it wi mi) (ok : BlkOk X.N X.env.scope scope own)
    (hg : ∀ (s : Shared) (H : Hp) (C : Addr) (cl : List (Str × Addr)) (fp : List Addr), JG (X.blk s H scope (compEnvC scope cl C X.env) fp) tg g js f) (ht : ∀ (s : Shared) (H : Hp) (C : Addr) (cl : List (Str × Addr)) (fp : List Addr), JTs (X.blk s H scope (compEnvC scope cl C X.env) fp) ifs tt mt)
    (he : ∀ (s : Shared) (H : Hp) (C : Addr) (cl : List (Str × Addr)) (fp : List Addr), JE (X.blk s H scope (compEnvC scope cl C X.env) fp) elt te me) (hj : ∀ j ∈ js, j ∈ own.map (·.2) := by decide) (hc : X.calm = true := by rfl) (hs : ∀ x, foldedSetIterable it X.env x = pure x := by intro _; rfl) :
    JF X (.ListComp elt [⟨tg, it, ifs, 0⟩] scope pos) (tLc wi g tt te (own.map (·.2))) (mLc mi f mt me (own.map (·.2))) :=
  ⟨pe_lc hc hN hi.p ok (fun s H C cl fp => (hg s H C cl fp).p) (fun s H C cl fp => (ht s H C cl fp).p) (fun s H C cl fp => (he s H C cl fp).p) hs,
    fm_lc hi.m (hg X.s_0 X.H_0 0 [] []).m hj (ht X.s_0 X.H_0 0 [] []).m (he X.s_0 X.H_0 0 [] []).m⟩
/-- name = [..] on one line -/
theorem s_setLc (i : Nat) {y : Str} {py spos : Pos} {elt tg it : Expr} {ifs : List Expr} {scope : Scope} {own : List (Str × Nat)} {wi : TI} {mi : MA} {g : TG} {js : List Nat} {f : D → DEnv → Option DEnv} (hN : X.N.Nodup) (hi : JI X tg it wi mi) (ok : BlkOk X.N X.env.scope scope own)
    (hg : ∀ (s : Shared) (H : Hp) (C : Addr) (cl : List (Str × Addr)) (fp : List Addr), JG (X.blk s H scope (compEnvC scope cl C X.env) fp) tg g js f) (ht : ∀ (s : Shared) (H : Hp) (C : Addr) (cl : List (Str × Addr)) (fp : List Addr), JTs (X.blk s H scope (compEnvC scope cl C X.env) fp) ifs tt mt)
    (he : ∀ (s : Shared) (H : Hp) (C : Addr) (cl : List (Str × Addr)) (fp : List Addr), JE (X.blk s H scope (compEnvC scope cl C X.env) fp) elt te me) (hj : ∀ j ∈ js, j ∈ own.map (·.2) := by decide) (hc : X.calm = true := by rfl) (hs : ∀ x, foldedSetIterable it X.env x = pure x := by intro _; rfl)
    (hy : X.N[i]? = some y := by rfl) (hyl : X.env.scope.names.lookup y = some .local := by rfl)
    (hsw : swapsWith (.ListComp elt [⟨tg, it, ifs, 0⟩] scope pos) (some (.Name y py)) spos.line X.env = pure true := by exact sw_true rfl rfl rfl (by decide +kernel)) :
    JS X W (.Assign [.Name y py] (.ListComp elt [⟨tg, it, ifs, 0⟩] scope pos) spos) (tAsg (tLc wi g tt te (own.map (·.2))) (gName i)) (mAsg i (mLst (mLc mi f mt me (own.map (·.2))))) :=
  ⟨ps_setLc hc hN hy hyl hsw hi.p ok (fun s H C cl fp => (hg s H C cl fp).p) (fun s H C cl fp => (ht s H C cl fp).p) (fun s H C cl fp => (he s H C cl fp).p) hs,
    sm_asg (em_fresh (fm_lc hi.m (hg X.s_0 X.H_0 0 [] []).m hj (ht X.s_0 X.H_0 0 [] []).m (he X.s_0 X.H_0 0 [] []).m))⟩
end

/-! ### a def's promise over data -/
def spD (K : PySem.W.Frag) (n : Nat) (F : List D → Option D) : Sp := fun vs H Q _ => ∃ G ds d, vs.length = n ∧ Ex G H ∧ Rps K G vs ds ∧ F ds = some d ∧ ∀ v G' H', Wd G H G' H' → Rp K G' v d → Q v H'
structure FnD (P : Program) (w : World) (K : PySem.W.Frag) (mg : Str → Option Value) (base : Heap) (f : Addr) (x : Str) (k n : Nat) (F : List D → Option D) : Prop where
  g : mg x = some (.ref f)
  kp : PySem.W.keepIn K (.ref f) = true
  ok : ∃ fd ps, Binds K fd ps [] ∧ FnOk P w K mg base CX0 k f fd ps (spD K n F)
  ar : ∀ ds d, F ds = some d → ds.length = n
def startD (N : List Str) (ds : List D) : DEnv := ds.map .pu ++ List.replicate (N.length - ds.length) .un
def runF (N : List Str) (n : Nat) (m : MS) (ds : List D) : Option D := if ds.length = n then match m (startD N ds) with
    | some (.rt d) => some d
    | some (.nx _) => some .non
    | _ => none
  else none
theorem cfg_start {K : PySem.W.Frag} {N : List Str} {vs : List V} {ds : List D} {G H : Hp} (e : Ex G H) (r : Rps K G vs ds) : Cfg K G H G H (L2.start N vs) (startD N ds) := by
  have l := r.length
  refine ⟨⟨Ex.refl _, Ex.refl _, e, fun _ _ h => h⟩, by simp [L2.start, startD, l], fun i x h => ?_, fun i j ei ej a _ qi _ oi _ => ?_⟩
  · unfold startD at h
    by_cases hi : i < ds.length
    · rw [List.getElem?_append_left (by simpa using hi), List.getElem?_map] at h
      obtain ⟨d, hd, rfl⟩ := Option.map_eq_some_iff.mp h
      obtain ⟨v, hv, rv⟩ := r.get hd
      refine ⟨v, ?_, rv⟩
      unfold L2.start
      rw [List.getElem?_append_left (by simpa [l] using hi), List.getElem?_map, hv]
      rfl
    · rw [List.getElem?_append_right (by simpa using hi)] at h
      have := List.eq_of_mem_replicate (List.mem_of_getElem? h)
      subst this
      trivial
  · unfold startD at qi
    by_cases hi : i < ds.length
    · rw [List.getElem?_append_left (by simpa using hi), List.getElem?_map] at qi
      obtain ⟨d, hd, rfl⟩ := Option.map_eq_some_iff.mp qi
      cases oi
    · rw [List.getElem?_append_right (by simpa using hi)] at qi
      have := List.eq_of_mem_replicate (List.mem_of_getElem? qi)
      subst this
      cases oi
section
variable {P : Program} {w : World} {K : PySem.W.Frag} {mg : Str → Option Value} {base : Heap}
def W0 : WX := fun _ _ _ _ => False
theorem fnD_of {x qual : Str} {st : Stmt} {f : Addr} {fd : FuncData} {N ps : List Str} {k n : Nat} {m : MS} (F : Fun K x qual st f fd) (S : FnScope N ps (defScope st)) (hb : Binds K fd ps []) (hg : mg x = some (.ref f)) (hn : ps.length = n)
    (body : ∀ (cdv : Value) (A : Around) (outer : List Env) (s : Shared) (H : Hp) (E : XK), Room k (A.deeper (envOfC qual (defScope st) s.heap.objs.size f cdv)) →
      ∃ t, JB (cxOf CX0 P w K mg base N qual (defScope st) f cdv A outer s H E).nox W0 (defBody st) t m) : FnD P w K mg base f x (k + 1) n (runF N n m) := by
  refine ⟨hg, F.kp, ⟨fd, ps, hb, F.ok S (fun vs H Q E h => ?_) fun cdv A outer s H vs Q E hr h => ?_⟩, fun ds d h => ?_⟩
  · obtain ⟨_, _, _, h1, _⟩ := h
    rw [h1, hn]
  · obtain ⟨t, j⟩ := body cdv A outer s H E hr
    refine ⟨t, j.p, ?_⟩
    obtain ⟨G, ds, d, h1, e, r, h2, q⟩ := h
    unfold runF at h2
    split at h2
    · split at h2
      · rename_i d' hm
        cases h2
        exact j.m _ _ hm G H G H _ _ (cfg_start e r) fun v G' H' wd rv => q v G' H' wd rv
      · rename_i ρ' hm
        cases h2
        exact j.m _ _ hm G H G H _ _ (cfg_start e r) fun G' H' σ' _ c' => q .non G' H' c'.wd0 (.val _)
      · cases h2
    · cases h2
  · unfold runF at h
    split at h
    · assumption
    · cases h
/-- another function that agrees -/
theorem FnD.imp {f : Addr} {x : Str} {k n : Nat} {F F' : List D → Option D} (h : FnD P w K mg base f x k n F) (hi : ∀ ds d, F' ds = some d → F ds = some d) : FnD P w K mg base f x k n F' := by
  obtain ⟨fd, ps, hb, ok⟩ := h.ok
  refine ⟨h.g, h.kp, ⟨fd, ps, hb, ok.imp fun vs H Q E q => ?_⟩, fun ds d e => h.ar ds d (hi ds d e)⟩
  obtain ⟨G, ds, d, h1, e, r, h2, q⟩ := q
  exact ⟨G, ds, d, h1, e, r, hi ds d h2, q⟩
theorem FnD.mono {f : Addr} {x : Str} {k j n : Nat} {F : List D → Option D} (h : FnD P w K mg base f x k n F) (hj : k ≤ j) : FnD P w K mg base f x j n F := by
  obtain ⟨fd, ps, hb, ok⟩ := h.ok
  exact ⟨h.g, h.kp, ⟨fd, ps, hb, ok.mono hj⟩, h.ar⟩
end
section
variable {X : Cx} {e : Expr} {es : List Expr} {tl : TA} {ml : MA} {pos p2 : Pos} {x : Str}
theorem j_call {f : Addr} {k j n : Nat} {F : List D → Option D} (T : FnD X.prog X.w X.K X.mg X.base f x k n F) (hr : Room j X.A) (ha : JA X (e :: es) tl ml) (hk : k ≤ j := by decide) (hg : Gl X x := by rfl) (hdb : (x == ("__debug__" : Str)) = false := by decide)
    (he : starEach (e :: es) X.env = (false, eval e X.env) :: starEach es X.env := by rfl) (hpl : (backTo pos (starEach es X.env)).any (·.1) = false := by rfl) {K : PySem.W.Frag} (hK : X.K = K := by rfl) :
    JE X (.Call (.Name x p2) (e :: es) [] pos) (tCall (spD K n F) [] E0 tl) (mCall F ml) := by
  subst hK
  obtain ⟨fd, ps, hb, ok⟩ := T.ok
  refine ⟨pe_call ok (hr.mono hk) hg T.g T.kp hb .nil pass0 ha.p hdb he hpl, fun ρ d q G0 H0 G H σ c Q z => ?_⟩
  obtain ⟨ds, e1, q⟩ := Option.bind_eq_some_iff.mp q
  refine ha.m ρ ds e1 G0 H0 G H σ c _ fun vs G1 H1 w1 r1 => ⟨G1, ds, d, ?_, w1.s, by rw [List.append_nil]; exact r1, q, fun v G2 H2 w2 r2 => z v G2 H2 (w1.trans w2) r2⟩
  rw [List.append_nil, r1.length]
  exact T.ar ds d q
end
end DD

set_option Elab.async false
set_option linter.all false
set_option maxRecDepth 100000
set_option maxHeartbeats 4000000
/-! DD7: defs that raise own errors with one field; raise; calls of such defs. -/
namespace DD
open PySem PySem.Spec PyProof.Rows L2 Evl

inductive Res where
  | ok (d : D) | ex (C : Addr) (f : Str) (x : D)
def PostX (K : PySem.W.Frag) (G H : Hp) (Q : VK) (E : XK) : Res → Prop
  | .ok d => ∀ v G' H', Wd G H G' H' → Rp K G' v d → Q v H'
  | .ex C f x => ∀ (a : Addr) (v : V) G' H', Wd G H G' H' → Rp K G' v x → H' a = some (.xd [(f, v)]) → E (.ref C) (some a) H'
def EvX (K : PySem.W.Frag) (W : WX) (te : TE) (ρ : DEnv) (r : Res) : Prop := ∀ G0 H0 G H σ, Cfg K G0 H0 G H σ ρ → ∀ Q : VK, PostX K G H Q (fun c d H' => W c d σ H') r → te σ H Q
abbrev MX := DEnv → Option Res
def XM (K : PySem.W.Frag) (W : WX) (te : TE) (m : MX) : Prop := ∀ ρ r, m ρ = some r → EvX K W te ρ r
structure JX (X : Cx) (W : WX) (e : Expr) (t : TE) (m : MX) : Prop where
  p : PE X e t
  m : XM X.K W t m
def spX (K : PySem.W.Frag) (n : Nat) (F : List D → Option Res) : Sp := fun vs H Q E => ∃ G ds r, vs.length = n ∧ Ex G H ∧ Rps K G vs ds ∧ F ds = some r ∧ PostX K G H Q E r
structure FnX (P : Program) (w : World) (K : PySem.W.Frag) (mg : Str → Option Value) (base : Heap) (f : Addr) (x : Str) (k n : Nat) (F : List D → Option Res) : Prop where
  g : mg x = some (.ref f)
  kp : PySem.W.keepIn K (.ref f) = true
  ok : ∃ fd ps, Binds K fd ps [] ∧ FnOk P w K mg base (L2.CX P w) k f fd ps (spX K n F)
  ar : ∀ ds d, F ds = some d → ds.length = n
def runX (N : List Str) (n : Nat) (m : MS) (ds : List D) : Option Res := if ds.length = n then match m (startD N ds) with
    | some (.rt d) => some (.ok d)
    | some (.nx _) => some (.ok .non)
    | some (.ex C f x _) => some (.ex C f x)
    | _ => none
  else none
def WD (E : XK) : WX := fun c d _ H => E c d H
section
variable {P : Program} {w : World} {K : PySem.W.Frag} {mg : Str → Option Value} {base : Heap}
theorem fnX_of {x qual : Str} {st : Stmt} {f : Addr} {fd : FuncData} {N ps : List Str} {k n : Nat} {m : MS} (F : Fun K x qual st f fd) (S : FnScope N ps (defScope st)) (hb : Binds K fd ps []) (hg : mg x = some (.ref f)) (hn : ps.length = n)
    (body : ∀ (cdv : Value) (A : Around) (outer : List Env) (s : Shared) (H : Hp) (E : XK), Room k (A.deeper (envOfC qual (defScope st) s.heap.objs.size f cdv)) →
      ∃ t, JB (cxOf (L2.CX P w) P w K mg base N qual (defScope st) f cdv A outer s H E) (WD E) (defBody st) t m) : FnX P w K mg base f x (k + 1) n (runX N n m) := by
  refine ⟨hg, F.kp, ⟨fd, ps, hb, F.okX S (fun vs H Q E h => ?_) fun cdv A outer s H vs Q E hr h => ?_⟩, fun ds d h => ?_⟩
  · obtain ⟨_, _, _, h1, _⟩ := h
    rw [h1, hn]
  · obtain ⟨t, j⟩ := body cdv A outer s H E hr
    refine ⟨t, j.p, ?_⟩
    obtain ⟨G, ds, r, h1, e, rr, h2, q⟩ := h
    unfold runX at h2
    split at h2
    · split at h2
      · rename_i d' hm
        cases h2
        exact j.m _ _ hm G H G H _ _ (cfg_start e rr) fun v G' H' wd rv => q v G' H' wd rv
      · rename_i ρ' hm
        cases h2
        exact j.m _ _ hm G H G H _ _ (cfg_start e rr) fun G' H' σ' _ c' => q .non G' H' c'.wd0 (.val _)
      · rename_i C fl xx ρ' hm
        cases h2
        exact j.m _ _ hm G H G H _ _ (cfg_start e rr) fun a v G' H' σ' _ c' rx hx => q a v G' H' c'.wd0 rx hx
      · cases h2
    · cases h2
  · unfold runX at h
    split at h
    · assumption
    · cases h
theorem FnX.imp {f : Addr} {x : Str} {k n : Nat} {F F' : List D → Option Res} (h : FnX P w K mg base f x k n F) (hi : ∀ ds d, F' ds = some d → F ds = some d) : FnX P w K mg base f x k n F' := by
  obtain ⟨fd, ps, hb, ok⟩ := h.ok
  refine ⟨h.g, h.kp, ⟨fd, ps, hb, ok.imp fun vs H Q E q => ?_⟩, fun ds d e => h.ar ds d (hi ds d e)⟩
  obtain ⟨G, ds, d, h1, e, r, h2, q⟩ := q
  exact ⟨G, ds, d, h1, e, r, hi ds d h2, q⟩
end
section
variable {X : Cx} {W : WX} {c e : Expr} {es : List Expr} {te ta tb : TE} {me : ME} {tl : TA} {ml : MA} {tt : TT} {mt : MT} {pos p2 : Pos} {x : Str} {ma mb mx : MX}
def mOk (m : ME) : MX := fun ρ => (m ρ).map .ok
theorem x_of (h : JE X e te me) : JX X W e te (mOk me) := ⟨h.p, fun ρ r q G0 H0 G H σ c Q z => by
  obtain ⟨d, e1, rfl⟩ := Option.map_eq_some_iff.mp q
  exact h.m ρ d e1 G0 H0 G H σ c Q z⟩
def mCallX (F : List D → Option Res) (m : MA) : MX := fun ρ => (m ρ).bind F
theorem x_call {f : Addr} {k j n : Nat} {F : List D → Option Res} (T : FnX X.prog X.w X.K X.mg X.base f x k n F) (hr : Room j X.A) (tk : Takes X W) (ha : JA X (e :: es) tl ml) (hk : k ≤ j := by decide) (hg : Gl X x := by rfl) (hdb : (x == ("__debug__" : Str)) = false := by decide)
    (he : starEach (e :: es) X.env = (false, eval e X.env) :: starEach es X.env := by rfl) (hpl : (backTo pos (starEach es X.env)).any (·.1) = false := by rfl) {K : PySem.W.Frag} (hK : X.K = K := by rfl) :
    JX X W (.Call (.Name x p2) (e :: es) [] pos) (tCallS (spX K n F) (WE W) tl) (mCallX F ml) := by
  subst hK
  obtain ⟨fd, ps, hb, ok⟩ := T.ok
  refine ⟨pe_callS ok (hr.mono hk) hg T.g T.kp hb (fun σ => passAt tk σ) ha.p hdb he hpl, fun ρ r q G0 H0 G H σ c Q z => ?_⟩
  obtain ⟨ds, e1, q⟩ := Option.bind_eq_some_iff.mp q
  refine ha.m ρ ds e1 G0 H0 G H σ c _ fun vs G1 H1 w1 r1 => ⟨G1, ds, r, ?_, w1.s, r1, q, ?_⟩
  · rw [r1.length]
    exact T.ar ds r q
  · cases r with
    | ok d => exact fun v G2 H2 w2 r2 => z v G2 H2 (w1.trans w2) r2
    | ex C fl xx => exact fun a v G2 H2 w2 r2 => z a v G2 H2 (w1.trans w2) r2
def mIfX (t : MT) (a b : MX) : MX := fun ρ => (t ρ).bind fun x => if x = true then a ρ else b ρ
theorem PostX.mono {K : PySem.W.Frag} {G H G1 H1 : Hp} {Q : VK} {E : XK} {r : Res} (w : Wd G H G1 H1) (p : PostX K G H Q E r) : PostX K G1 H1 Q E r := by
  cases r with
  | ok d => exact fun v G2 H2 w2 r2 => p v G2 H2 (w.trans w2) r2
  | ex C fl xx => exact fun a v G2 H2 w2 r2 => p a v G2 H2 (w.trans w2) r2
theorem x_if {a b : Expr} (h : JT X c tt mt) (ha : JX X W a ta ma) (hb : JX X W b tb mb) : JX X W (.IfExp c a b pos) (tIf tt ta tb) (mIfX mt ma mb) := ⟨pe_ifExp h.p ha.p hb.p, fun ρ r q G0 H0 G H σ cf Q z => by
  obtain ⟨y, e1, q⟩ := Option.bind_eq_some_iff.mp q
  refine h.m ρ y e1 G0 H0 G H σ cf _ fun G1 H1 w => ?_
  cases y with
  | true => exact iteT (ha.m ρ r q G0 H0 G1 H1 σ (cf.mono w) Q (z.mono w))
  | false => exact iteF (hb.m ρ r q G0 H0 G1 H1 σ (cf.mono w) Q (z.mono w))⟩
def mRetX (m : MX) : MS := fun ρ => (m ρ).map fun r => match r with
  | .ok d => .rt d
  | .ex C f x => .ex C f x ρ
theorem s_retX (h : JX X W e te mx) : JS X W (.Return (some e) pos) (tRet te) (mRetX mx) := ⟨ps_ret h.p, fun ρ o q G0 H0 G H σ E c p => by
  obtain ⟨r, e1, rfl⟩ := Option.map_eq_some_iff.mp q
  refine h.m ρ r e1 G0 H0 G H σ c _ ?_
  cases r with
  | ok d => exact fun v G' H' w r => p v G' H' (c.wd0.trans w) r
  | ex C f x => exact fun a v G' H' w r hx => p a v G' H' σ w.g (c.mono w) r hx⟩
def mAsgX (i : Nat) (m : MX) : MS := fun ρ => (m ρ).map fun r => match r with
  | .ok d => .nx (ρ.set i (.pu d))
  | .ex C f x => .ex C f x ρ
theorem s_setX (i : Nat) {p' : Pos} (hN : X.N.Nodup) (he : JX X W e te mx) (hi : X.N[i]? = some x := by rfl) (hx : Loc X.env.scope x := by first | exact .inl rfl | exact .inr rfl) (hs : swapsWith e (some (.Name x p')) pos.line X.env = pure false := by rfl) (hf : X.fn x = true ∨ X.env.scope.names.lookup x = some .local := by first | exact .inl rfl | exact .inr rfl) :
    JS X W (.Assign [.Name x p'] e pos) (tAsg te (gName i)) (mAsgX i mx) := ⟨ps_set hN hi hx he.p hs hf, fun ρ o q G0 H0 G H σ E c p => by
  obtain ⟨r, e1, rfl⟩ := Option.map_eq_some_iff.mp q
  refine he.m ρ r e1 G0 H0 G H σ c _ ?_
  cases r with
  | ok d => exact fun v G' H' w r => p G' H' _ w.g ((c.mono w).set r)
  | ex C f x => exact fun a v G' H' w r hx => p a v G' H' σ w.g (c.mono w) r hx⟩
def mDropX (m : MX) : MS := fun ρ => (m ρ).map fun r => match r with
  | .ok _ => .nx ρ
  | .ex C f x => .ex C f x ρ
theorem s_exprX (h : JX X W e te mx) (hs : swapsWith e none pos.line X.env = pure false := by rfl) : JS X W (.Expr e pos) (tDrop te) (mDropX mx) := ⟨ps_expr h.p hs, fun ρ o q G0 H0 G H σ E c p => by
  obtain ⟨r, e1, rfl⟩ := Option.map_eq_some_iff.mp q
  refine h.m ρ r e1 G0 H0 G H σ c _ ?_
  cases r with
  | ok d => exact fun v G' H' w r => p G' H' _ w.g (c.mono w)
  | ex C f x => exact fun a v G' H' w r hx => p a v G' H' σ w.g (c.mono w) r hx⟩

/-! ### an own error with one field -/
def spInit (C : Addr) (f : Str) : Sp := fun vs H Q _ => ∃ a y, vs = [.ref a, y] ∧ H a = some (exo a C none) ∧ ∀ dx, H dx = none → dx ≠ a → Q .non (upd (upd H dx (exd dx [(f, y)])) a (exo a C (some dx)))
/-- what is known of an error's class: C, by the name x, its __init__ at fI, which stores the field f -/
structure ErrT (P : Program) (w : World) (K : PySem.W.Frag) (mg : Str → Option Value) (base : Heap) (x : Str) (C : Addr) (f : Str) : Prop where
  g : mg x = some (.ref C)
  oex : OexC K C
  ini : ∃ fI fd ps, PySem.W.findIn K (.ref C) "__init__" = some (some (.ref fI)) ∧ PySem.W.typeIn K (.ref fI) = some (.type "function") ∧ Binds K fd ps [] ∧ FnOk P w K mg base CX0 2 fI fd ps (spInit C f)
def mRaise (C : Addr) (f : Str) (m : ME) : MS := fun ρ => (m ρ).map fun d => .ex C f d ρ
theorem s_raise {C : Addr} {f : Str} {p3 : Pos} {j : Nat} (T : ErrT X.prog X.w X.K X.mg X.base x C f) (hr : Room j X.A) (tk : Takes X W) (he : JE X e te me) (hj : 3 ≤ j := by decide) (hg : Gl X x := by rfl) (hdb : (x == ("__debug__" : Str)) = false := by decide) (hc : X.calm = true := by rfl)
    (hs : starEach (e :: []) X.env = (false, eval e X.env) :: starEach [] X.env := by rfl) (hpl : (backTo pos (starEach [] X.env)).any (·.1) = false := by rfl) :
    JS X W (.Raise (some (.Call (.Name x p2) [e] [] pos)) none p3) (fun _ σ H => tMkO C (spInit C f) [] (tCons te tNil) σ H fun cls d H' => W cls d σ H') (mRaise C f me) := by
  obtain ⟨fI, fd, ps, h1, h2, hb, ok⟩ := T.ini
  refine ⟨ps_raise hc tk (pmk_oex T.oex h1 h2 ok (hr.mono hj) hb .nil pass0 hg T.g (pa_cons he.p pa_nil hs) hdb hs hpl), fun ρ o q G0 H0 G H σ E c p => ?_⟩
  obtain ⟨d, e1, rfl⟩ := Option.map_eq_some_iff.mp q
  refine he.m ρ d e1 G0 H0 G H σ c _ fun v G1 H1 w r => ⟨(by show 1 ≤ 1000; decide), fun a ha => ?_⟩
  refine ⟨a, v, rfl, upd_same, fun dx hdx hne => ⟨rfl, dx, [(f, v)], upd_same, ?_, ?_, ?_⟩⟩
  · rw [upd_ne hne, upd_same]
  · rw [upd_ne hne] at hdx
    exact hdx
  · rw [upd_ne hne] at hdx
    have keep : ∀ b u, H1 b = some u → (upd (del (upd (upd (upd H1 a (exo a C none)) dx (exd dx [(f, v)])) a (exo a C (some dx))) a) dx (.xd [(f, v)])) b = some u := fun b u hb => by
      have n1 : b ≠ a := ne_of_none hb ha
      have n2 : b ≠ dx := ne_of_none hb hdx
      rw [upd_ne n2, del_ne n1, upd_ne n1, upd_ne n2, upd_ne n1]
      exact hb
    have w2 : Wd G1 H1 G1 _ := ⟨Ex.refl G1, keep, fun b u hb => keep b u (w.s b u hb), fun _ _ h => h⟩
    exact p dx v G1 _ σ w.g (c.mono (w.trans w2)) r upd_same
end
end DD

set_option Elab.async false
set_option linter.all false
set_option maxRecDepth 100000
set_option maxHeartbeats 4000000
/-! DD8: calls of a def that a name holds, or an item of a list of defs; the laws' way of catching. -/
namespace DD
open PySem PySem.Spec PyProof.Rows L2 Evl

structure HeldD (P : Program) (w : World) (K : PySem.W.Frag) (mg : Str → Option Value) (base : Heap) (k n : Nat) (f : Addr) (F : List D → Option D) : Prop where
  kp : PySem.W.keepIn K (.ref f) = true
  ok : ∃ fd ps, Binds K fd ps [] ∧ FnOk P w K mg base CX0 k f fd ps (spD K n F)
  ar : ∀ ds d, F ds = some d → ds.length = n
structure HeldX (P : Program) (w : World) (K : PySem.W.Frag) (mg : Str → Option Value) (base : Heap) (k n : Nat) (f : Addr) (F : List D → Option Res) : Prop where
  kp : PySem.W.keepIn K (.ref f) = true
  ok : ∃ fd ps, Binds K fd ps [] ∧ FnOk P w K mg base (L2.CX P w) k f fd ps (spX K n F)
  ar : ∀ ds d, F ds = some d → ds.length = n
theorem FnD.held {P : Program} {w : World} {K : PySem.W.Frag} {mg : Str → Option Value} {base : Heap} {f : Addr} {x : Str} {k n : Nat} {F : List D → Option D} (h : FnD P w K mg base f x k n F) : HeldD P w K mg base k n f F := ⟨h.kp, h.ok, h.ar⟩
theorem FnX.held {P : Program} {w : World} {K : PySem.W.Frag} {mg : Str → Option Value} {base : Heap} {f : Addr} {x : Str} {k n : Nat} {F : List D → Option Res} (h : FnX P w K mg base f x k n F) : HeldX P w K mg base k n f F := ⟨h.kp, h.ok, h.ar⟩
theorem HeldD.mono {P : Program} {w : World} {K : PySem.W.Frag} {mg : Str → Option Value} {base : Heap} {f : Addr} {k j n : Nat} {F : List D → Option D} (h : HeldD P w K mg base k n f F) (hj : k ≤ j) : HeldD P w K mg base j n f F := by
  obtain ⟨fd, ps, hb, ok⟩ := h.ok
  exact ⟨h.kp, ⟨fd, ps, hb, ok.mono hj⟩, h.ar⟩
theorem HeldX.mono {P : Program} {w : World} {K : PySem.W.Frag} {mg : Str → Option Value} {base : Heap} {f : Addr} {k j n : Nat} {F : List D → Option Res} (h : HeldX P w K mg base k n f F) (hj : k ≤ j) : HeldX P w K mg base j n f F := by
  obtain ⟨fd, ps, hb, ok⟩ := h.ok
  exact ⟨h.kp, ⟨fd, ps, hb, ok.mono hj⟩, h.ar⟩
section
variable {X : Cx} {W : WX} {c e fe : Expr} {es : List Expr} {te tf : TE} {me mf : ME} {tl : TA} {ml : MA} {pos p2 : Pos} {x : Str}
def mCallA (i : Nat) (Tb : Addr → Option (List D → Option D)) (m : MA) : ME := fun ρ => (mVar i ρ).bind fun d => match d with
  | .val (.ref f) => (Tb f).bind fun F => (m ρ).bind F
  | _ => none
theorem j_callA (i n : Nat) {k : Nat} {Tb : Addr → Option (List D → Option D)} (A : ∀ f F, Tb f = some F → HeldD X.prog X.w X.K X.mg X.base k n f F) (hr : Room k X.A) (ha : JA X (e :: es) tl ml) (hN : X.N[i]? = some x := by rfl) (hv : Vis X.env.scope x := by first | exact Or.inl rfl | exact Or.inr (Or.inl rfl) | exact Or.inr (Or.inr rfl))
    (hdb : (x == ("__debug__" : Str)) = false := by decide) (hcd : (x == ("__classdict__" : Str)) = false := by decide)
    (he : starEach (e :: es) X.env = (false, eval e X.env) :: starEach es X.env := by rfl) (hpl : (backTo pos (starEach es X.env)).any (·.1) = false := by rfl) {K : PySem.W.Frag} (hK : X.K = K := by rfl) :
    JE X (.Call (.Name x p2) (e :: es) [] pos) (tCallA i (fun f => (Tb f).map fun F => spD K n F) tl) (mCallA i Tb ml) := by
  subst hK
  refine ⟨pe_callA (k := k) (fun f sp h => ?_) hr hN hv ha.p hdb hcd he hpl, fun ρ d q G0 H0 G H σ cf Q z => ?_⟩
  · obtain ⟨F, h1, rfl⟩ := Option.map_eq_some_iff.mp h
    obtain ⟨fd, ps, hb, ok⟩ := (A f F h1).ok
    exact ⟨⟨fd, ps, ok, (A f F h1).kp, hb⟩⟩
  · obtain ⟨d1, e1, q⟩ := Option.bind_eq_some_iff.mp q
    unfold mVar at e1
    split at e1
    · rename_i d' hi
      cases e1
      obtain ⟨v, hs, rv⟩ := cf.slot i _ hi
      split at q
      · rename_i f
        obtain ⟨F, h1, q⟩ := Option.bind_eq_some_iff.mp q
        obtain ⟨ds, h2, q⟩ := Option.bind_eq_some_iff.mp q
        cases rp_val rv
        refine ⟨f, spD X.K n F, hs, (by show (Tb f).map _ = _; rw [h1]; rfl), ha.m ρ ds h2 G0 H0 G H σ cf _ fun vs G1 H1 w1 r1 => ⟨G1, ds, d, ?_, w1.s, r1, q, fun v G2 H2 w2 r2 => z v G2 H2 (w1.trans w2) r2⟩⟩
        rw [r1.length]
        exact (A f F h1).ar ds d q
      · cases q
    · cases e1
/-- the callee is what an expression gives -/
def tCallV (S : Addr → Option Sp) (W : WX) (tf : TE) (t : TA) : TE := fun σ H Q => tf σ H fun y H1 => ∃ f sp, y = .ref f ∧ S f = some sp ∧ t σ H1 fun vs H2 => sp vs H2 Q (WE W σ)
def mCallV (Tb : Addr → Option (List D → Option Res)) (mf : ME) (m : MA) : MX := fun ρ => (mf ρ).bind fun d => match d with
  | .val (.ref f) => (Tb f).bind fun F => (m ρ).bind F
  | _ => none
theorem x_callV (n : Nat) {k : Nat} {Tb : Addr → Option (List D → Option Res)} (A : ∀ f F, Tb f = some F → HeldX X.prog X.w X.K X.mg X.base k n f F) (hr : Room k X.A) (tk : Takes X W) (hf : JE X fe tf mf) (ha : JA X (e :: es) tl ml)
    (hcall : eval (.Call fe (e :: es) [] pos) X.env = (do callWith pos (← eval fe X.env) [] (backTo pos (starEach (e :: es) X.env)) (backToKw pos (keywordEach [] X.env))) := by rfl)
    (he : starEach (e :: es) X.env = (false, eval e X.env) :: starEach es X.env := by rfl) (hpl : (backTo pos (starEach es X.env)).any (·.1) = false := by rfl) {K : PySem.W.Frag} (hK : X.K = K := by rfl) :
    JX X W (.Call fe (e :: es) [] pos) (tCallV (fun f => (Tb f).map fun F => spX K n F) W tf tl) (mCallV Tb mf ml) := by
  subst hK
  refine ⟨⟨fun pins s σ H Q I h => ?_⟩, fun ρ r q G0 H0 G H σ cf Q z => ?_⟩
  · refine Call_ (thn (hf.p.run pins s σ H _ I h) fun u s1 ⟨y, H1, I1, r1, q1⟩ => ?_) hcall
    obtain ⟨f, sp, rfl, hS, ht⟩ := q1
    cases r1
    obtain ⟨F, h1, rfl⟩ := Option.map_eq_some_iff.mp hS
    obtain ⟨fd, ps, hb, ok⟩ := (A f F h1).ok
    refine PySem.W.callWith_K (h₀ := X.base) I.ok.mod.kin (A f F h1).kp (thn (ha.p.run pos pins s1 σ _ _ I1 ht) fun us s2 ⟨vs, H2, I2, r, q⟩ => ⟨I2.kIn, ?_⟩) he hpl
    exact run_fnS ok hr hb (passAt tk σ) I2 r q
  · obtain ⟨d1, e1, q⟩ := Option.bind_eq_some_iff.mp q
    split at q
    · rename_i f
      obtain ⟨F, h1, q⟩ := Option.bind_eq_some_iff.mp q
      obtain ⟨ds, h2, q⟩ := Option.bind_eq_some_iff.mp q
      refine hf.m ρ _ e1 G0 H0 G H σ cf _ fun y G1 H1 w1 r1 => ?_
      cases rp_val r1
      refine ⟨f, spX X.K n F, rfl, (by show (Tb f).map _ = _; rw [h1]; rfl), ha.m ρ ds h2 G0 H0 G1 H1 σ (cf.mono w1) _ fun vs G2 H2 w2 r2 => ⟨G2, ds, r, ?_, w2.s, r2, q, z.mono (w1.trans w2)⟩⟩
      rw [r2.length]
      exact (A f F h1).ar ds r q
    · cases q
/-! ### isinstance of a caught own error that has a field -/
def rIsX (K : PySem.W.Frag) (C a : Addr) (cls : Value) (d : Option Addr) : List V → Hp → VK → Prop := fun xs H Q => ∃ (y : V) (cv : Value) (b : Bool) (dd : Addr) (fs : List (Str × V)), xs = [.ref a, y] ∧ cls = .ref C ∧ d = some dd ∧ H dd = some (.xd fs) ∧ (∀ u, RelV y u → u = cv) ∧ PySem.W.kitOne K (.ref C) cv = some b ∧ Q (.bl b) H
structure ErrC (K : PySem.W.Frag) (D : Addr) : Prop where
  hc : (PySem.W.clsIn K D).isSome = true
  hg : PySem.W.findIn K (.ref D) "__getattribute__" = some (some (.builtin "BaseException.__getattribute__"))
  hk : PySem.W.findIn K (.ref D) "__getattr__" = some none
  hs : PySem.W.subIn K (.ref D) (.type "BaseException") = some true
  ha : PySem.W.findIn K (.ref D) "__class__" = some (some (.builtin "object.__class__"))
  hn : PySem.W.specialIn K (.builtin "object.__class__") "__get__" = some (some (.builtin "getset_descriptor.__get__"))
  ht : PySem.W.takesIn K (.builtin "object.__class__") = some true
  hm : PySem.W.mroIn K D (.type "object") = some true
theorem call_isX {a C : Addr} {cls : Value} {d : Option Addr} {oe : Obj} {pn : List (Addr × Obj)} (T : ErrC X.K C) (hz : Zc cls d oe) (hf : ∃ vs, oe.data = .fields vs) : CallR (X.suite a ((a, oe) :: pn)) (.builtin "isinstance") (rIsX X.K C a cls d) := by
  intro pins s σ H xs us Q I r h
  obtain ⟨y, cv, b, dd, fs, rfl, hcl, hd, hx, hcv, e, q⟩ := h
  subst hd hcl
  cases r with
  | cons rx rr =>
    cases rr with
    | cons rt rr =>
      cases rr
      cases rx
      have ec := hcv _ rt
      subst ec
      obtain ⟨hget, _⟩ := I.pin (a, oe) (List.mem_append.mpr (.inl List.mem_cons_self))
      obtain ⟨vs, hv⟩ := hf
      have hx2 : ObjOk X.prog X.w H s.heap dd (.xd fs) := I.hok dd _ hx
      obtain ⟨mA, hns, hr⟩ := hx2
      obtain ⟨od, ho, hl⟩ := lookIn_ns hns
      have J : PySem.W.InstAt s.heap a oe C (some od) := ⟨hget, hz.1, by unfold PySem.W.notCls; rw [hv] <;> rfl, by rw [hz.2]; exact ho⟩
      exact PySem.W.kia_one (PySem.W.kitx_exc T.hc T.hg T.hk T.hs T.ha T.hn T.ht T.hm) I.kIn J e (fun z => nomatch z) fun tk => ⟨.bl b, H, I.kept (t' := tk) fun _ _ z => z, rfl, q⟩
/-- try: return CALL / except C as e: if isinstance(e, C2): return z1; return (z2, e.f) -/
def tNote (K : PySem.W.Frag) (C C2 : Addr) (i : Nat) (z1 z2 : Str) (f : Str) : Addr → Value → Option Addr → TS := fun a cls d =>
  tSeq (tIfS (tB (tCB (rIsX K C a cls d) (tCons (tVar i) (tCons (tC (.ref C2)) tNil)))) (tRet (tC (.str z1))) tNext) (tRet (tTup (tCons (tC (.str z2)) (tCons (tXf a cls d C f (tVar i)) tNil))))
def mNote (i : Nat) (C : Addr) (f z2 : Str) (m : MX) : MS := fun ρ => if i < ρ.length then (m ρ).bind fun r => match r with
  | .ok d => some (.rt d)
  | .ex C' f' x => if C' = C ∧ f' = f then some (.rt (.tup [.str z2, x])) else none
  else none
theorem s_note {i : Nat} {call : Expr} {t : WX → TE} {mx : MX} {n x : Str} {C C2 : Addr} {f z1 z2 : Str} {np pos' rp : Pos} {b0 : Stmt} {suite : List Stmt} {K : PySem.W.Frag} (hK : X.K = K) (hs : X.stack = X.env :: X.outer) (hfr : X.env.frame = some X.env.locals) (hN : X.N.Nodup) (hi : X.N[i]? = some n) (hln : X.env.kindOf n = some .local) (hc : Names X x (.ref C)) (tk : Takes X W)
    (hcall : ∀ (W : WX) (pn : List (Addr × Obj)) (xe : Value → Shared → Prop), Takes (X.tr pn xe) W → JX (X.tr pn xe) W call (t W) mx)
    (hsu : ∀ (a : Addr) (oe : Obj) (cls : Value) (d : Option Addr) (pn : List (Addr × Obj)), Zc cls d oe → (∃ vs, oe.data = .fields vs) → PSs (X.suite a ((a, oe) :: pn)) (b0 :: suite) (tNote K C C2 i z1 z2 f a cls d))
    (e1 : PySem.W.exmOne K (.ref C) (.ref C) = some true) (e2 : PySem.W.kitOne K (.ref C) (.ref C2) = some false) :
    JS X W (.Try [.Return (some call) rp] [.ExceptHandler (some (.Name x np)) (some n) (b0 :: suite) pos'] [] [] pos) (fun D σ H => tRet (t (wAs K (.ref C) i (tNote K C C2 i z1 z2 f) W D)) D σ H) (mNote i C f z2 mx) := by
  subst hK
  refine ⟨ps_try_as (tb := fun W => tRet (t W)) hs hfr hN hi hln hc tk (fun W pn xe htk hp => pss_one (ps_ret (hcall W pn xe htk).p)) hsu, fun ρ o q G0 H0 G H σ E c p => ?_⟩
  unfold mNote at q
  split at q
  case isFalse => cases q
  rename_i hlen
  obtain ⟨r, e3, q⟩ := Option.bind_eq_some_iff.mp q
  have hm : XM X.K (wAs X.K (.ref C) i (tNote X.K C C2 i z1 z2 f) W E) (t (wAs X.K (.ref C) i (tNote X.K C C2 i z1 z2 f) W E)) mx :=
    (hcall (wAs X.K (.ref C) i (tNote X.K C C2 i z1 z2 f) W E) [] (fun _ _ => True) (fun _ _ _ => trivial)).m
  refine hm ρ r e3 G0 H0 G H σ c _ ?_
  cases r with
  | ok d =>
    cases q
    exact fun v G' H' w r => p v G' H' (c.wd0.trans w) r
  | ex C' f' xx =>
    have q' : (if C' = C ∧ f' = f then some (Out.rt (.tup [.str z2, xx])) else none) = some o := q
    split at q'
    · rename_i hh
      obtain ⟨rfl, rfl⟩ := hh
      cases q'
      refine fun a v G' H' w rx hx => ⟨true, e1, fun _ b hb => ?_, fun z => nomatch z⟩
      have hiσ : (σ.set i (some (.ref b)))[i]? = some (some (.ref b)) := by
        have hl : i < σ.length := by rw [← c.len]; exact hlen
        rw [List.getElem?_set_self hl]
      refine ⟨_, hiσ, ⟨_, _, _, a, [(f', v)], rfl, rfl, rfl, hx, fun u ru => ru, e2, ⟨false, rfl, iteF ?_⟩⟩⟩
      refine ⟨_, hiσ, rfl, rfl, a, [(f', v)], v, rfl, hx, by simp [List.lookup], ⟨(by show 2 ≤ sizeLine; decide), fun q hq => ?_⟩⟩
      have w2 := Wd.new (o := .tup [.str z2, v]) w.s hq
      exact p _ _ _ (c.wd0.trans (w.trans w2)) (.tup (.inl (.inl upd_same)) (.cons (.val _) (.cons (rx.mono w2.g) .nil)))
    · cases q'
/-- what is asked of an error's class to be caught and read: its name x, C, its field f -/
structure ErrF (K : PySem.W.Frag) (mg : Str → Option Value) (x : Str) (C : Addr) (f : Str) : Prop where
  g : mg x = some (.ref C)
  c : ErrC K C
  xf : XfC K C
  no : PySem.W.findIn K (.ref C) f = some none
  exm : PySem.W.exmOne K (.ref C) (.ref C) = some true
end
end DD

set_option Elab.async false
set_option linter.all false
set_option maxRecDepth 100000
set_option maxHeartbeats 4000000
/-! DD9: the K-judgements: as L2's, and what the frame holds under the names ν is kept to the token. -/
namespace DD
open PySem PySem.Spec PyProof.Rows L2 Evl

abbrev Kx (s s' : Shared) : Prop := ∀ b u, s.heap.get? b = some u → s'.heap.get? b = some u
def Kn (X : Cx) (ν : List Str) (s s' : Shared) : Prop := ∀ m, s.heap.Ns X.env.locals m → ∃ m', s'.heap.Ns X.env.locals m' ∧ ∀ x ∈ ν, m' x = m x
def Fz (H H' : Hp) : Prop := ∀ a o u, H a = some (.frz o u) → H' a = some (.frz o u)
section
variable {X : Cx} {ν : List Str} {s s1 s2 s' : Shared} {H H1 H2 : Hp}
theorem Kx.kn (h : Kx s s') : Kn X ν s s' := fun m n => ⟨m, n.keeps h, fun _ _ => rfl⟩
theorem Kn.refl : Kn X ν s s := fun m n => ⟨m, n, fun _ _ => rfl⟩
theorem Kn.trans (h : Kn X ν s s1) (h2 : Kn X ν s1 s2) : Kn X ν s s2 := fun m n => by
  obtain ⟨m1, n1, e1⟩ := h m n
  obtain ⟨m2, n2, e2⟩ := h2 m1 n1
  exact ⟨m2, n2, fun x hx => (e2 x hx).trans (e1 x hx)⟩
theorem Fz.refl : Fz H H := fun _ _ _ e => e
theorem Fz.trans (h : Fz H H1) (h2 : Fz H1 H2) : Fz H H2 := fun a o u e => h2 a o u (h a o u e)
theorem Fz.new {p : Addr} {o : HO} (hp : H p = none) : Fz H (upd H p o) := fun a ob u e => by
  rw [upd_ne (ne_of_none e hp)]; exact e
end
def EV (X : Cx) (pins : List (Addr × Obj)) (σ : L2.St) (s : Shared) (H : Hp) (Q : VK) (v : Value) (s' : Shared) : Prop := Kx s s' ∧ ∃ x H', Fz H H' ∧ Inv X pins σ H' s' ∧ RelV x v ∧ Q x H'
def EK (X : Cx) (ν : List Str) (pins : List (Addr × Obj)) (σ : L2.St) (s : Shared) (H : Hp) (Q : VK) (v : Value) (s' : Shared) : Prop := Kn X ν s s' ∧ ∃ x H', Fz H H' ∧ Inv X pins σ H' s' ∧ RelV x v ∧ Q x H'
def TK (X : Cx) (ν : List Str) (pins : List (Addr × Obj)) (σ : L2.St) (s : Shared) (H : Hp) (Q : Bool → Hp → Prop) (b : Bool) (s' : Shared) : Prop := Kn X ν s s' ∧ ∃ H', Fz H H' ∧ Inv X pins σ H' s' ∧ Q b H'
def AK (X : Cx) (ν : List Str) (pins : List (Addr × Obj)) (σ : L2.St) (s : Shared) (H : Hp) (Q : List V → Hp → Prop) (us : List Value) (s' : Shared) : Prop := Kn X ν s s' ∧ ∃ xs H', Fz H H' ∧ Inv X pins σ H' s' ∧ Vals xs us ∧ Q xs H'
def OK' (X : Cx) (ν : List Str) (pins : List (Addr × Obj)) (σ : L2.St) (s : Shared) (H : Hp) (Q : Option Int → Hp → Prop) (u : Value) (s' : Shared) : Prop := Kn X ν s s' ∧ ∃ i H', Fz H H' ∧ Inv X pins σ H' s' ∧ IsPart u i ∧ Q i H'
def NK (X : Cx) (pins : List (Addr × Obj)) (H : Hp) (N : L2.St → Hp → Prop) (s' : Shared) : Prop := ∃ σ' H', Fz H H' ∧ Inv X pins σ' H' s' ∧ N σ' H'
def SK (X : Cx) (ν : List Str) (pins : List (Addr × Obj)) (s : Shared) (H : Hp) (D : Ends) (f : Flow) (s' : Shared) : Prop := Kn X ν s s' ∧ match f with
  | .next => NK X pins H D.nx s'
  | .brk => NK X pins H D.bk s'
  | .cont => NK X pins H D.ct s'
  | .ret u => ∃ v σ' H', Fz H H' ∧ Inv X pins σ' H' s' ∧ RelV v u ∧ D.rt v H'

structure PEK (X : Cx) (ν : List Str) (e : Expr) (t : TE) : Prop where
  run : ∀ (pins : List (Addr × Obj)) (s : Shared) (σ : L2.St) (H : Hp) (Q : VK), Inv X pins σ H s → t σ H Q → wpAny (model X.prog X.w) X.A (eval e X.env) (EK X ν pins σ s H Q) X.xe s
structure PTK (X : Cx) (ν : List Str) (e : Expr) (t : TT) : Prop where
  run : ∀ (pins : List (Addr × Obj)) (s : Shared) (σ : L2.St) (H : Hp) (Q : Bool → Hp → Prop), Inv X pins σ H s → t σ H Q → wpAny (model X.prog X.w) X.A (isTrue e X.env (eval e X.env)) (TK X ν pins σ s H Q) X.xe s
structure PWK (X : Cx) (ν : List Str) (e : Expr) (t : TT) : Prop where
  run : ∀ (whole : Sem Value) (pins : List (Addr × Obj)) (s : Shared) (σ : L2.St) (H : Hp) (Q : Bool → Hp → Prop), Inv X pins σ H s → t σ H Q → wpAny (model X.prog X.w) X.A (isTrue e X.env whole) (TK X ν pins σ s H Q) X.xe s
structure PAK (X : Cx) (ν : List Str) (es : List Expr) (t : TA) : Prop where
  run : ∀ (pos : Pos) (pins : List (Addr × Obj)) (s : Shared) (σ : L2.St) (H : Hp) (Q : List V → Hp → Prop), Inv X pins σ H s → t σ H Q → wpAny (model X.prog X.w) X.A (spliced (backTo pos (starEach es X.env))) (AK X ν pins σ s H Q) X.xe s
structure POK (X : Cx) (ν : List Str) (e : Option Expr) (t : TO) : Prop where
  run : ∀ (pins : List (Addr × Obj)) (s : Shared) (σ : L2.St) (H : Hp) (Q : Option Int → Hp → Prop), Inv X pins σ H s → t σ H Q → wpAny (model X.prog X.w) X.A (evalPart e X.env) (OK' X ν pins σ s H Q) X.xe s
structure PSK (X : Cx) (ν : List Str) (st : Stmt) (t : TS) : Prop where
  run : ∀ (pins : List (Addr × Obj)) (s : Shared) (σ : L2.St) (H : Hp) (D : Ends), Inv X pins σ H s → t D σ H → wpAny (model X.prog X.w) X.A (exec st X.env) (SK X ν pins s H D) X.xe s
structure PSsK (X : Cx) (ν : List Str) (st : List Stmt) (t : TS) : Prop where
  run : ∀ (pins : List (Addr × Obj)) (s : Shared) (σ : L2.St) (H : Hp) (D : Ends), Inv X pins σ H s → t D σ H → wpAny (model X.prog X.w) X.A (execs st X.env) (SK X ν pins s H D) X.xe s

section
variable {X : Cx} {ν : List Str} {pins : List (Addr × Obj)} {σ : L2.St} {s s1 s2 : Shared} {H H1 : Hp} {Q : VK} {v : Value}
theorem EV.k (h : EV X pins σ s H Q v s1) : EK X ν pins σ s H Q v s1 := ⟨h.1.kn, h.2⟩
theorem EK.from (k : Kn X ν s s1) (f : Fz H H1) (h : EK X ν pins σ s1 H1 Q v s2) : EK X ν pins σ s H Q v s2 := by
  obtain ⟨k2, x, H2, f2, r⟩ := h
  exact ⟨k.trans k2, x, H2, f.trans f2, r⟩
theorem TK.from {Q : Bool → Hp → Prop} {b : Bool} (k : Kn X ν s s1) (f : Fz H H1) (h : TK X ν pins σ s1 H1 Q b s2) : TK X ν pins σ s H Q b s2 := by
  obtain ⟨k2, H2, f2, r⟩ := h
  exact ⟨k.trans k2, H2, f.trans f2, r⟩
theorem SK.from {D : Ends} {fl : Flow} (k : Kn X ν s s1) (f : Fz H H1) (h : SK X ν pins s1 H1 D fl s2) : SK X ν pins s H D fl s2 := by
  obtain ⟨k2, h⟩ := h
  refine ⟨k.trans k2, ?_⟩
  cases fl with
  | next => obtain ⟨σ', H', f2, r⟩ := h; exact ⟨σ', H', f.trans f2, r⟩
  | brk => obtain ⟨σ', H', f2, r⟩ := h; exact ⟨σ', H', f.trans f2, r⟩
  | cont => obtain ⟨σ', H', f2, r⟩ := h; exact ⟨σ', H', f.trans f2, r⟩
  | ret u => obtain ⟨x, σ', H', f2, r⟩ := h; exact ⟨x, σ', H', f.trans f2, r⟩
theorem EK.ep (h : EK X ν pins σ s H Q v s1) : EP X pins σ Q v s1 := by
  obtain ⟨_, x, H1, _, I, r, q⟩ := h
  exact ⟨x, H1, I, r, q⟩
/-- the ends of value-level rules -/
theorem ev_tok {x : V} {k : Nat} (I : Inv X pins σ H s) (r : RelV x v) (q : Q x H) : EV X pins σ s H Q v { s with toks := k } := ⟨fun _ _ e => e, x, H, Fz.refl, I.tok k, r, q⟩
theorem ev_same {x : V} (I : Inv X pins σ H s) (r : RelV x v) (q : Q x H) : EV X pins σ s H Q v s := ⟨fun _ _ e => e, x, H, Fz.refl, I, r, q⟩
theorem ev_lst {vs : List V} {its : List Value} {n k : Nat} {h' : Heap} (I : Inv X pins σ H s) (r : Vals vs its) (hz : vs.length ≤ sizeLine) (kp : ∀ b u, s.heap.get? b = some u → h'.get? b = some u)
    (e : h'.get? s.heap.objs.size = some { cls := .type "list", data := .seq its.toArray n }) (q : ∀ p, H p = none → Q (.ref p) (upd H p (.lst vs))) : EV X pins σ s H Q (.ref s.heap.objs.size) { s with heap := h', toks := k } := by
  have hp := I.hok.fresh (Nat.le_refl s.heap.objs.size)
  refine ⟨kp, .ref s.heap.objs.size, upd H s.heap.objs.size (.lst vs), Fz.new hp, I.laid kp (Nat.le_refl _) ⟨hz, its, n, r, e⟩, rfl, q _ hp⟩
end

/-! ### rules of operations -/
def OpK (X : Cx) (f : Value → Value → Sem Value) (r : R2) : Prop :=
  ∀ (pins : List (Addr × Obj)) (s : Shared) (σ : L2.St) (H : Hp) (x y : V) (v u : Value) (Q : VK), Inv X pins σ H s → RelV x v → RelV y u → r x y H Q → wpAny (model X.prog X.w) X.A (f v u) (EV X pins σ s H Q) X.xe s
def IxK (X : Cx) (r : R2) : Prop :=
  ∀ (value slice : Expr) (pins : List (Addr × Obj)) (s : Shared) (σ : L2.St) (H : Hp) (x y : V) (v u : Value) (Q : VK), Inv X pins σ H s → RelV x v → RelV y u → r x y H Q →
    subscripted slice false v u = operate [v, u] (getItem v u) → wpAny (model X.prog X.w) X.A (subscriptTail value slice v u) (EV X pins σ s H Q) X.xe s
def SlK (X : Cx) (r : V → Option Int → Option Int → Hp → VK → Prop) : Prop :=
  ∀ (pins : List (Addr × Obj)) (s : Shared) (σ : L2.St) (H : Hp) (x : V) (v vl vu : Value) (lo hi : Option Int) (sl : Addr) (Q : VK), Inv X pins σ H s → RelV x v → s.heap.IsSliceOf sl vl vu .none → IsPart vl lo → IsPart vu hi → r x lo hi H Q →
    ∃ T id, typeLookup (.type T) "__getitem__" = pure (some (.builtin id)) ∧ s.TypeIs v T ∧ wpAny (model X.prog X.w) X.A (getItem v (.ref sl)) (EV X pins σ s H Q) X.xe s
def CallK (X : Cx) (f : Value) (r : List V → Hp → VK → Prop) : Prop :=
  ∀ (pins : List (Addr × Obj)) (s : Shared) (σ : L2.St) (H : Hp) (xs : List V) (us : List Value) (Q : VK), Inv X pins σ H s → Vals xs us → r xs H Q → wpAny (model X.prog X.w) X.A (call f us) (EV X pins σ s H Q) X.xe s
def MtK (X : Cx) (id : String) (r : V → List V → Hp → VK → Prop) : Prop :=
  ∀ (pins : List (Addr × Obj)) (s : Shared) (σ : L2.St) (H : Hp) (x : V) (xs : List V) (v : Value) (us : List Value) (Q : VK), Inv X pins σ H s → RelV x v → Vals xs us → r x xs H Q → wpAny (model X.prog X.w) X.A (call (.builtin id) (v :: us)) (EV X pins σ s H Q) X.xe s
section
variable {X : Cx}
theorem OpK.or {f : Value → Value → Sem Value} {r r' : R2} (h : OpK X f r) (h' : OpK X f r') : OpK X f (fun x y H Q => r x y H Q ∨ r' x y H Q) := by
  intro pins s σ H x y v u Q I rx ry q
  rcases q with q | q
  · exact h pins s σ H x y v u Q I rx ry q
  · exact h' pins s σ H x y v u Q I rx ry q
theorem SlK.or {r r' : V → Option Int → Option Int → Hp → VK → Prop} (h : SlK X r) (h' : SlK X r') : SlK X (fun x lo hi H Q => r x lo hi H Q ∨ r' x lo hi H Q) := by
  intro pins s σ H x v vl vu lo hi sl Q I rx hs pl pu q
  rcases q with q | q
  · exact h pins s σ H x v vl vu lo hi sl Q I rx hs pl pu q
  · exact h' pins s σ H x v vl vu lo hi sl Q I rx hs pl pu q
theorem opKI {f : Value → Value → Sem Value} {C : Int → Int → Prop} {g : Int → Int → Int}
    (rule : ∀ (i j : Int) (t u : Tok) (s : Shared) (Q : Value → Shared → Prop) (E : Value → Shared → Prop), C i j → Q (.int (g i j) s.toks) { s with toks := s.toks + 1 } → wpAny (model X.prog X.w) X.A (f (.int i t) (.int j u)) Q E s) :
    OpK X f (rI C fun i j => .int (g i j)) := by
  intro pins s σ H x y v u Q I rx ry h
  obtain ⟨i, j, rfl, rfl, hc, q⟩ := h
  obtain ⟨t, rfl⟩ := rx
  obtain ⟨t', rfl⟩ := ry
  exact rule i j t t' s _ _ hc (ev_tok I (x := .int (g i j)) ⟨_, rfl⟩ q)
theorem opKI0 {f : Value → Value → Sem Value} {g : Int → Int → Int}
    (rule : ∀ (i j : Int) (t u : Tok) (s : Shared) (Q : Value → Shared → Prop) (E : Value → Shared → Prop), Q (.int (g i j) s.toks) { s with toks := s.toks + 1 } → wpAny (model X.prog X.w) X.A (f (.int i t) (.int j u)) Q E s) :
    OpK X f (rI0 fun i j => .int (g i j)) := by
  intro pins s σ H x y v u Q I rx ry h
  obtain ⟨i, j, rfl, rfl, q⟩ := h
  obtain ⟨t, rfl⟩ := rx
  obtain ⟨t', rfl⟩ := ry
  exact rule i j t t' s _ _ (ev_tok I (x := .int (g i j)) ⟨_, rfl⟩ q)
theorem opk_add0 : OpK X (binaryOp .Add) (rI0 fun i j => .int (i + j)) := opKI0 fun _ _ _ _ _ _ _ q => add_int q
theorem opk_sub : OpK X (binaryOp .Sub) (rI0 fun i j => .int (i - j)) := opKI0 fun _ _ _ _ _ _ _ q => sub_int q
theorem opk_mul : OpK X (binaryOp .Mult) (rI CMul fun i j => .int (i * j)) := opKI fun _ _ _ _ _ _ _ hc q => mul_int q hc.ok
theorem opk_mod : OpK X (binaryOp .Mod) (rI (fun _ j => 0 < j) fun i j => .int (i % j)) := opKI fun i j _ _ _ _ _ hc q => by
  have h1 : (0 : Int) < j := hc
  exact mod_int' (by omega) (by rw [Int.fmod_eq_emod_of_nonneg i (by omega)]; exact q)
def rCatS : R2 := fun x y H Q => ∃ i j, x = .str i ∧ y = .str j ∧ i.length + j.length ≤ sizeLine ∧ Q (.str (i ++ j)) H
theorem opk_catS : OpK X (binaryOp .Add) rCatS := by
  intro pins s σ H x y v u Q I rx ry h
  obtain ⟨i, j, rfl, rfl, hz, q⟩ := h
  obtain ⟨t, rfl⟩ := rx
  obtain ⟨t', rfl⟩ := ry
  exact add_str (fun t' tk => ev_tok I (x := .str (i ++ j)) ⟨_, rfl⟩ q) hz
theorem opk_catR : OpK X (binaryOp .Add) (rCatR X.K) := by
  intro pins s σ H x y v u Q I rx ry h
  obtain ⟨l, b, xs, zs, rfl, rfl, hH, hB, hz, q⟩ := h
  cases rx
  cases ry
  obtain ⟨its, r, ⟨o, n, ho, hc, hd, hs⟩, _⟩ := I.list hH
  obtain ⟨its2, r2, ⟨o2, n2, ho2, hc2, hd2, hs2⟩, _⟩ := I.list hB
  have l1 := r.length
  have l2 := r2.length
  obtain ⟨oc, od, odt, osl⟩ := o
  obtain ⟨oc2, od2, odt2, osl2⟩ := o2
  simp only at hc hd hs hc2 hd2 hs2
  subst hc hd hs hc2 hd2 hs2
  have e : its.toArray ++ its2.toArray = (its ++ its2).toArray := by simp
  refine PySem.concat_meets ⟨_, ho, rfl⟩ ⟨_, ho2, rfl⟩ noFill_list_add seq_list_add PySem.F.slot_list_add PySem.F.entry_list_add (PySem.F.args_list_add_2 _ _)
    (PyProof.Rows.list_addW l b its.toArray its2.toArray n n2 none none osl osl2 (by simp; omega)) ⟨ho, ho2, ?_⟩
  rw [e]
  exact ev_lst (k := s.toks) I (r.append r2) (by rw [List.length_append]; omega) (fun b o e => Heap.get?_push_of_some _ e) (Heap.get?_push_size _ rfl) q
/-- ints, texts, lists -/
def rAddK (K : PySem.W.Frag) : R2 := fun x y H Q => rI0 (fun i j => .int (i + j)) x y H Q ∨ rCatS x y H Q ∨ rCatR K x y H Q
theorem opk_add : OpK X (binaryOp .Add) (rAddK X.K) := opk_add0.or (opk_catS.or opk_catR)
theorem opk_ne (hu : X.A.units + 64 < cLine) : OpK X (compareOp .NotEq) (rNeD X.K) := by
  intro pins s σ H x y v u Q I rx ry h
  obtain ⟨d, e, hd, he, sd, se, q⟩ := h
  obtain ⟨as, r1⟩ := Dp.reads I d x v hd rx
  obtain ⟨bs, r2⟩ := Dp.reads I e y u he ry
  exact SeqAt.compareNe_shaped r1 r2 sd se hu (ev_same I (x := .bl _) rfl q)
theorem ixk_list : IxK X (rIxL X.K) := by
  intro value slice pins s σ H x y v u Q I rx ry h hs
  obtain ⟨p, xs, i, z, rfl, rfl, hq, he, q⟩ := h
  cases rx
  obtain ⟨t, rfl⟩ := ry
  obtain ⟨its, r, pl, hz⟩ := I.list hq
  obtain ⟨j, h1, h2, h3, h4, h5⟩ := atI_get he
  obtain ⟨w, ew, rw'⟩ := r.get h2
  have hl := r.length
  have hn := line63
  have fin : EV X pins σ s H Q w s := ev_same I rw' q
  by_cases h0 : 0 ≤ i
  · have hj : i.toNat = j := by
      rw [seqIndex_of h0 h5] at h1
      exact Option.some.inj h1
    exact item_listR pl.isList h0 (by omega) (by rw [hj]; simpa using ew) fin hs
  · have hj : (i + (its.toArray.size : Int)).toNat = j := by
      rw [seqIndex_neg (by omega) h4] at h1
      rw [List.size_toArray, ← hl]
      exact Option.some.inj h1
    exact subscriptTail_builtinR (x := w) pl.isList.typeIs slot_list_getitem.lookup
      (wpAny_getItem_list_neg (Q := fun r s' => r = w ∧ EV X pins σ s H Q r s') pl.isList (by omega) (by rw [List.size_toArray] <;> omega) (by omega) (by rw [hj]; simpa using ew) ⟨rfl, fin⟩) hs
theorem slk_list : SlK X (rSlL X.K) := by
  intro pins s σ H x v vl vu lo hi sl Q I rx hs pl pu h
  obtain ⟨a, xs, rfl, hx, q⟩ := h
  cases rx
  obtain ⟨its, r, ht, hz⟩ := I.list hx
  have hlen := r.length
  refine ⟨"list", _, slot_list_getitem.lookup, ht.isList.typeIs, ?_⟩
  refine wpAny_getItem_list_slice ht.isList hs pl pu .none (by simp) ?_ (by rw [List.size_toArray] <;> omega)
  rw [slicePick_cut, ← hlen]
  exact ev_lst (k := s.toks) I ((r.drop (HT.sIx xs.length 0 lo)).take (HT.sIx xs.length xs.length hi - HT.sIx xs.length 0 lo)) (Nat.le_trans (cutV_length xs lo hi) hz) (fun b o e => Heap.get?_push_of_some _ e) (Heap.get?_push_size _ rfl) q
theorem slk_str : SlK X rSlS := by
  intro pins s σ H x v vl vu lo hi sl Q I rx hs pl pu h
  obtain ⟨z, rfl, hz, q⟩ := h
  obtain ⟨t, rfl⟩ := rx
  obtain ⟨os, hos, hcs, hds⟩ := hs
  obtain ⟨l, rfl, rfl⟩ := IsPart.raw pl
  obtain ⟨u, rfl, rfl⟩ := IsPart.raw pu
  refine ⟨"str", _, F.slot_str_getitem.lookup, typeIs_str _ _ _, ?_⟩
  refine wpAny_getItem_str_slice (l := l) (u := u) (st := none) ⟨os, hos, hcs, hds⟩ rfl ?_
  have hl : (PySem.StrLaws.sliceText z (l.map (·.1)) (u.map (·.1))).length ≤ sizeLine := by
    rw [sliceText_cut]
    exact Nat.le_trans (cutS_length z _ _) hz
  rw [← sliceText_cut] at q
  unfold PySem.StrLaws.sliceText at q hl
  show Made.post (if ((1 : Int) == 1 && (Builtin.Str.strSliceIndices (l.map (·.1)) (u.map (·.1)) 1 z.length).length == z.length) = true then Made.val (.str z t)
    else Made.str ⟨((Builtin.Str.strSliceIndices (l.map (·.1)) (u.map (·.1)) 1 z.length).filterMap (z.cps[·]?)).toArray⟩) (EV X pins σ s H Q) s
  by_cases c : ((1 : Int) == 1 && (Builtin.Str.strSliceIndices (l.map (·.1)) (u.map (·.1)) 1 z.length).length == z.length) = true
  · rw [if_pos c] at q ⊢
    exact ev_same I (x := .str z) ⟨t, rfl⟩ q
  · rw [if_neg c] at q hl ⊢
    exact ⟨hl, ev_tok I (x := .str _) ⟨_, rfl⟩ q⟩
def rSlK (K : PySem.W.Frag) : V → Option Int → Option Int → Hp → VK → Prop := fun x lo hi H Q => rSlL K x lo hi H Q ∨ rSlS x lo hi H Q
theorem slk_any : SlK X (rSlK X.K) := slk_list.or slk_str
def rLenK (K : PySem.W.Frag) : List V → Hp → VK → Prop := fun xs H Q => (∃ z, xs = [.str z] ∧ z.length ≤ sizeLine ∧ Q (.int z.length) H) ∨ ∃ p ys, xs = [.ref p] ∧ SqL K H p ys ∧ Q (.int ys.length) H
theorem callk_len : CallK X (.builtin "len") (rLenK X.K) := by
  intro pins s σ H xs us Q I r h
  have hn := line63
  rcases h with ⟨z, rfl, hz, q⟩ | ⟨p, ys, rfl, hq, q⟩
  · obtain ⟨u, rfl, t, rfl⟩ := vals1 r
    exact len_str (by omega) (ev_tok I (x := .int z.length) ⟨_, rfl⟩ q)
  · obtain ⟨u, rfl, rx⟩ := vals1 r
    cases rx
    obtain ⟨its, r', pl, hz⟩ := I.list hq
    have hlen := r'.length
    exact Calls.call_len_list pl.isList (by simp only [List.size_toArray] <;> omega) (by rw [List.size_toArray, ← hlen]; exact ev_tok I (x := .int ys.length) ⟨s.toks + 1, rfl⟩ q)
theorem callk_list : CallK X (.type "list") (fun xs H Q => ∃ p ys, xs = [.ref p] ∧ SqL X.K H p ys ∧ ∀ l, H l = none → Q (.ref l) (upd H l (.lst ys))) := by
  intro pins s σ H xs us Q I r h
  obtain ⟨p, ys, rfl, hq, q⟩ := h
  obtain ⟨u, rfl, rx⟩ := vals1 r
  cases rx
  obtain ⟨its, r', pl, hz⟩ := I.list hq
  have hlen := r'.length
  obtain ⟨o, ho, hc, n, hd⟩ := pl.isList
  exact call_list_seq p (.inl rfl) ho hc hd (fun h' c' kp e => ev_lst (k := s.toks) I r' hz kp e q) (by simp only [List.size_toArray] <;> omega)
def rJoinK (K : PySem.W.Frag) : V → List V → Hp → VK → Prop := fun x xs H Q => ∃ a p, ∃ ys : List Str, x = .str a ∧ xs = [.ref p] ∧ SqL K H p (ys.map V.str) ∧ (ys.map (·.length)).sum + ys.length * a.length ≤ 16777216 ∧ Q (.str (Txt.join a ys)) H
theorem mtk_join : MtK X "str.join" (rJoinK X.K) := by
  intro pins s σ H x xs v us Q I rx rs h
  obtain ⟨a, p, ys, rfl, rfl, hp, hz, h⟩ := h
  obtain ⟨t, rfl⟩ := rx
  cases rs with
  | cons r1 rs =>
    cases rs
    cases r1
    obtain ⟨its, r, ⟨o, n, ho, hc, _, hd⟩, _⟩ := I.list hp
    exact PyProof.Rows.join_list (items := its.toArray) ⟨o, ho, hc, n, hd⟩ (by rw [List.toList_toArray]; exact strs_of_vals r) hz fun t' k => ev_tok I (x := .str _) ⟨t', rfl⟩ h
end
end DD

set_option Elab.async false
set_option linter.all false
set_option maxRecDepth 100000
set_option maxHeartbeats 4000000
/-! DD10: the K-rules of expressions, tests, statements, loops, calls. -/
namespace DD
open PySem PySem.Spec PyProof.Rows L2 Evl

section
variable {X : Cx} {ν : List Str} {a b c e o : Expr} {es : List Expr} {ta tb tc te to : TE} {t : TA} {tA tB' : TT} {pos p p2 p3 apos cpos : Pos} {x : Str}
theorem pek_var {i : Nat} {x : Str} {pos : Pos} (hN : X.N[i]? = some x) (hv : Vis X.env.scope x) (hd : (x == ("__debug__" : Str)) = false := by decide) (hcd : (x == ("__classdict__" : Str)) = false := by decide) : PEK X ν (.Name x pos) (tVar i) := by
  refine ⟨fun pins s σ H Q I h => ?_⟩
  obtain ⟨v, e, h⟩ := h
  exact raw_name hN hv I e (fun u r => (ev_same I r h).k) hd hcd
theorem pek_int {i : Int} {j : Nat} : PEK X ν (.Constant (.int i) j pos) (tC (.int i)) := ⟨fun _ _ _ H _ I h => wpAny_Constant_int (ev_tok I (x := .int i) ⟨_, rfl⟩ h).k⟩
theorem pek_bl {i : Bool} {j : Nat} : PEK X ν (.Constant (.bool i) j pos) (tC (.bl i)) := ⟨fun _ _ _ H _ I h => Constant_bool (ev_same I (x := .bl i) rfl h).k⟩
theorem pek_non {j : Nat} : PEK X ν (.Constant .none j pos) (tC .non) := ⟨fun _ _ _ H _ I h => Constant_none (ev_same I (x := .non) rfl h).k⟩
theorem pek_str {z : Str} {j : Nat} : PEK X ν (.Constant (.str z) j pos) (tC (.str z)) := ⟨fun _ _ _ H _ I h => Calls.Constant_str (ev_tok I (x := .str z) ⟨_, rfl⟩ h).k⟩
theorem pek_glob {v : V} {u : Value} (hg : Gl X x) (hm : X.mg x = some u) (r : RelV v u) (hd : (x == ("__debug__" : Str)) = false := by decide) : PEK X ν (.Name x pos) (tC v) :=
  ⟨fun _ _ _ H _ I h => ld_glob I hg hm (ev_same I r h).k hd⟩
theorem pek_bltn {v : V} {u : Value} (hg : Gl X x) (hm : X.mg x = none) (hv : bootBuiltins x = some u) (r : RelV v u) (hn : x ≠ "__name__" := by decide) (hd : (x == ("__debug__" : Str)) = false := by decide) : PEK X ν (.Name x pos) (tC v) :=
  ⟨fun _ _ _ H _ I h => ld_blt I hg hm hv (ev_same I r h).k hn hd⟩
theorem binK (ha : PEK X ν a ta) (hb : PEK X ν b tb) {pins : List (Addr × Obj)} {s : Shared} {σ : L2.St} {H : Hp} {R : V → V → Hp → Prop} (I : Inv X pins σ H s)
    (h : ta σ H fun x H1 => tb σ H1 fun y H2 => R x y H2) {Q : Value → Shared → Prop} {f : Value → Value → Sem Value}
    (hf : ∀ v u s2 x y H2, Kn X ν s s2 → Fz H H2 → Inv X pins σ H2 s2 → RelV x v → RelV y u → R x y H2 → wpAny (model X.prog X.w) X.A (f v u) Q X.xe s2) :
    wpAny (model X.prog X.w) X.A (eval a X.env) (fun v s₁ => wpAny (model X.prog X.w) X.A (eval b X.env) (fun u s₂ => wpAny (model X.prog X.w) X.A (f v u) Q X.xe s₂) X.xe s₁) X.xe s := by
  refine thn (ha.run pins s σ H _ I h) fun v s1 ⟨k1, x, H1, f1, I1, r1, q1⟩ => ?_
  refine thn (hb.run pins s1 σ H1 _ I1 q1) fun u s2 ⟨k2, y, H2, f2, I2, r2, q2⟩ => ?_
  exact hf v u s2 x y H2 (k1.trans k2) (f1.trans f2) I2 r1 r2 q2
theorem pek_op {op : Operator} {r : R2} (ho : OpK X (binaryOp op) r) (ha : PEK X ν a ta) (hb : PEK X ν b tb) : PEK X ν (.BinOp a op b pos) (tOp r ta tb) := by
  refine ⟨fun pins s σ H Q I h => ?_⟩
  exact wpAny_BinOp (binK ha hb I h fun v u s2 x y H2 k f I2 rx ry q => thn (ho pins s2 σ H2 x y v u Q I2 rx ry q) fun _ _ z => EK.from k f z.k)
theorem pek_cmp {op : CmpOp} {r : R2} (ho : OpK X (compareOp op) r) (ha : PEK X ν a ta) (hb : PEK X ν b tb) (hm : behindInMarks op b = false) : PEK X ν (.Compare a [op] [b] pos) (tOp r ta tb) := by
  refine ⟨fun pins s σ H Q I h => ?_⟩
  exact wpAny_Compare1 (binK ha hb I h fun v u s2 x y H2 k f I2 rx ry q => thn (ho pins s2 σ H2 x y v u Q I2 rx ry q) fun _ _ z => EK.from k f z.k) hm
theorem pek_ix {r : R2} (hr : IxK X r) (ha : PEK X ν a ta) (hb : PEK X ν b tb) (hs : PlainIx b) : PEK X ν (.Subscript a b pos) (tOp r ta tb) := by
  refine ⟨fun pins s σ H Q I h => ?_⟩
  exact Subscript_ (binK ha hb I h fun v u s2 x y H2 k f I2 rx ry q => thn (hr a b pins s2 σ H2 x y v u Q I2 rx ry q (hs _ _)) fun _ _ z => EK.from k f z.k)
theorem pok_none : POK X ν none tNoPart := by
  refine ⟨fun pins s σ H Q I h => ?_⟩
  rw [evalPart_none]
  exact wpAny_pure ⟨Kn.refl, none, H, Fz.refl, I, .none, h⟩
theorem pok_some (h : PEK X ν e te) : POK X ν (some e) (tPart te) := by
  refine ⟨fun pins s σ H Q I hw => ?_⟩
  rw [evalPart_some]
  refine thn (h.run pins s σ H _ I hw) fun u s1 ⟨k1, x, H1, f1, I1, r1, q1⟩ => ?_
  obtain ⟨i, rfl, q⟩ := q1
  obtain ⟨t, rfl⟩ := r1
  exact ⟨k1, some i, H1, f1, I1, .int i t, q⟩
theorem pek_sl {lo hi : Option Expr} {tl th : TO} {r : V → Option Int → Option Int → Hp → VK → Prop} (hr : SlK X r) (he : PEK X ν e te) (hl : POK X ν lo tl) (hu : POK X ν hi th) : PEK X ν (.Subscript e (.Slice lo hi none p2) pos) (tSl r te tl th) := by
  refine ⟨fun pins s σ H Q I h => ?_⟩
  refine Subscript_ (thn (he.run pins s σ H _ I h) fun v s1 ⟨k1, x, H1, f1, I1, r1, q1⟩ => ?_)
  refine wpAny_Slice (thn (hl.run pins s1 σ H1 _ I1 q1) fun vl s2 ⟨k2, l, H2, f2, I2, pl, q2⟩ => thn (hu.run pins s2 σ H2 _ I2 q2) fun vu s3 ⟨k3, u, H3, f3, I3, pu, q3⟩ => ?_)
  rw [evalPart_none]
  refine wpAny_pure ?_
  have I4 : Inv X pins σ H3 { s3 with heap := s3.heap.push { cls := .type "slice", data := .fields #[vl, vu, .none] } } := I3.kept (t' := s3.toks) fun b ob q => Heap.get?_push_of_some _ q
  have k4 : Kn X ν s3 { s3 with heap := s3.heap.push { cls := .type "slice", data := .fields #[vl, vu, .none] } } := Kx.kn fun b u e => Heap.get?_push_of_some _ e
  obtain ⟨T, id, hT, ht, hg⟩ := hr pins { s3 with heap := s3.heap.push { cls := .type "slice", data := .fields #[vl, vu, .none] } } σ H3 x v vl vu l u s3.heap.objs.size Q I4 r1 (Heap.IsSliceOf.new ..) pl pu q3
  show wpAny (model X.prog X.w) X.A (subscriptTail e (.Slice lo hi none p2) v (.ref s3.heap.objs.size)) (EK X ν pins σ s H Q) X.xe { s3 with heap := s3.heap.push { cls := .type "slice", data := .fields #[vl, vu, .none] } }
  exact tail_any (ops := [.ref s3.heap.objs.size, v]) ht hT (thn hg fun _ _ z => EK.from (((k1.trans k2).trans k3).trans k4) ((f1.trans f2).trans f3) z.k) (by with_unfolding_all rfl)
theorem pek_rev {k : Nat} {q1 q2 q3 : Pos} (he : PEK X ν e te) : PEK X ν (.Subscript e (.Slice none none (some (.UnaryOp .USub (.Constant (.int 1) k q1) q2)) q3) pos) (tRevL X.K te) := by
  refine ⟨fun pins s σ H Q I h => ?_⟩
  refine Subscript_ (thn (he.run pins s σ H _ I h) fun v s1 ⟨k1, x, H1, f1, I1, r1, q1'⟩ => ?_)
  obtain ⟨a, xs, ex, hx, q⟩ := q1'
  subst ex
  cases r1
  refine wpAny_Slice ?_
  rw [evalPart_none]
  refine wpAny_pure (wpAny_pure ?_)
  rw [evalPart_some]
  refine UnaryOp_ (wpAny_Constant_int (neg_int ?_))
  have I5 : ∀ tk w, Inv X pins σ H1 { s1 with toks := tk, heap := s1.heap.push { cls := .type "slice", data := .fields #[.none, .none, w] } } := fun tk w => (I1.tok tk).kept (t' := tk) fun b ob q => Heap.get?_push_of_some _ q
  obtain ⟨its, r, ht, hz⟩ := (I5 (s1.toks + 1 + 1) (.int (-1) (s1.toks + 1))).list hx
  have hlen := r.length
  show wpAny (model X.prog X.w) X.A (subscriptTail e (.Slice none none (some (.UnaryOp .USub (.Constant (.int 1) k q1) q2)) q3) (.ref a) (.ref s1.heap.objs.size)) (EK X ν pins σ s H Q) X.xe { s1 with toks := s1.toks + 1 + 1, heap := s1.heap.push { cls := .type "slice", data := .fields #[.none, .none, .int (-1) (s1.toks + 1)] } }
  refine tail_any (ops := [.ref a, .ref s1.heap.objs.size]) ht.isList.typeIs (PySem.slot_list_getitem.lookup) ?_ (by with_unfolding_all rfl)
  refine wpAny_getItem_list_slice ht.isList (Heap.IsSliceOf.new _ .none .none (.int (-1) (s1.toks + 1))) .none .none (.int (-1) (s1.toks + 1)) (by decide) ?_ (by rw [List.size_toArray]; omega)
  rw [PySem.W.krv_pick]
  refine EK.from (k1.trans (Kx.kn (s' := { s1 with toks := s1.toks + 1 + 1, heap := s1.heap.push { cls := .type "slice", data := .fields #[.none, .none, .int (-1) (s1.toks + 1)] } }) fun b u e => Heap.get?_push_of_some _ e)) f1
    (ev_lst (vs := xs.reverse) (k := s1.toks + 1 + 1) (I5 _ _) r.reverse (by rw [List.length_reverse]; exact hz) (fun b u e => Heap.get?_push_of_some _ e) (Heap.get?_push_size _ rfl) q).k
theorem pak_nil : PAK X ν [] tNil := ⟨fun _ _ _ _ H Q I h => Calls.spliced_nil ⟨Kn.refl, [], H, Fz.refl, I, .nil, h⟩⟩
theorem pak_cons (ha : PEK X ν e te) (hr : PAK X ν es t) (hs : starEach (e :: es) X.env = (false, eval e X.env) :: starEach es X.env := by rfl) : PAK X ν (e :: es) (tCons te t) := by
  refine ⟨fun pos pins s σ H Q I h => ?_⟩
  rw [hs]
  show wpAny _ _ (spliced ((false, eval e X.env) :: backTo pos (starEach es X.env))) _ _ s
  refine Calls.spliced_cons (thn (ha.run pins s σ H _ I h) fun u s1 ⟨k1, x, H1, f1, I1, r1, q1⟩ => ?_)
  exact thn (hr.run pos pins s1 σ H1 _ I1 q1) fun us s2 ⟨k2, xs, H2, f2, I2, r2, q2⟩ => ⟨k1.trans k2, x :: xs, H2, f1.trans f2, I2, .cons r1 r2, q2⟩
theorem pek_lst (h : PAK X ν es t) : PEK X ν (.List es pos) (tLst t) := by
  refine ⟨fun pins s σ H Q I hq => ?_⟩
  refine wpAny_List_spliced (thn (h.run pos pins s σ H _ I hq) fun us s1 ⟨k1, xs, H1, f1, I1, r, z, q⟩ => ⟨by rw [← r.length]; exact z, ?_⟩)
  exact EK.from k1 f1 (ev_lst (k := s1.toks) I1 r z (fun b u e => Heap.get?_push_of_some _ e) (Heap.get?_push_size _ rfl) q).k
theorem pek_callB {id : String} {r : List V → Hp → VK → Prop} (hc : CallK X (.builtin id) r) (hg : Gl X x) (hm : X.mg x = none) (hv : bootBuiltins x = some (.builtin id)) (ha : PAK X ν (e :: es) t) (hn : x ≠ "__name__" := by decide) (hdb : (x == ("__debug__" : Str)) = false := by decide)
    (he : starEach (e :: es) X.env = (false, eval e X.env) :: starEach es X.env := by rfl) (hpl : (backTo pos (starEach es X.env)).any (·.1) = false := by rfl) : PEK X ν (.Call (.Name x p) (e :: es) [] pos) (tCB r t) := by
  refine ⟨fun pins s σ H Q I h => ?_⟩
  refine wpAny_Call_Name_kw (ld_blt I hg hm hv ?_ hn hdb)
  exact PyProof.Rows.callWith_builtin1 (thn (ha.run pos pins s σ H _ I h) fun us s1 ⟨k1, vs, H1, f1, I1, r1, q1⟩ => thn (hc pins s1 σ H1 vs us Q I1 r1 q1) fun _ _ z => EK.from k1 f1 z.k) he hpl
theorem pek_callTy {T : String} {r : List V → Hp → VK → Prop} (hc : CallK X (.type T) r) (hg : Gl X x) (hm : X.mg x = none) (hv : bootBuiltins x = some (.type T)) (ha : PAK X ν (e :: es) t) (hn : x ≠ "__name__" := by decide) (hdb : (x == ("__debug__" : Str)) = false := by decide)
    (he : starEach (e :: es) X.env = (false, eval e X.env) :: starEach es X.env := by rfl) (hpl : (backTo pos (starEach es X.env)).any (·.1) = false := by rfl) : PEK X ν (.Call (.Name x p) (e :: es) [] pos) (tCB r t) := by
  refine ⟨fun pins s σ H Q I h => ?_⟩
  refine wpAny_Call_Name_kw (ld_blt I hg hm hv ?_ hn hdb)
  exact PyProof.Rows.callWith_type1 (thn (ha.run pos pins s σ H _ I h) fun us s1 ⟨k1, vs, H1, f1, I1, r1, q1⟩ => thn (hc pins s1 σ H1 vs us Q I1 r1 q1) fun _ _ z => EK.from k1 f1 z.k) he hpl
theorem pek_bm {T id : String} {name : Str} {r : V → List V → Hp → VK → Prop} (pa : PlainAttrs T) (slot : PySem.Slot T name id) (hty : typeOf (.builtin id) = pure (.type "method_descriptor")) (hm : MtK X id r) (ho : PEK X ν o to) (ha : PAK X ν (e :: es) t)
    (hbase : attributeBase o name X.env (eval o X.env) = eval o X.env := by rfl)
    (hfew : ((backTo cpos (starEach (e :: es) X.env)).all (fun x => !x.1) && (backToKw cpos (keywordEach [] X.env)).all (fun x => x.1.isSome)
      && decide ((e :: es).length + ([] : List Keyword).length + (if ([] : List Keyword).isEmpty then 0 else 1) < 30)) = true := by rfl)
    (hline : (apos.endLine == cpos.line) = true := by rfl) (hs : starEach (e :: es) X.env = (false, eval e X.env) :: starEach es X.env := by rfl) (hplain : (backTo cpos (starEach es X.env)).any (·.1) = false := by rfl) :
    PEK X ν (.Call (.Attribute o name apos) (e :: es) [] cpos) (tBM X.K T r to t) := by
  refine ⟨fun pins s σ H Q I h => ?_⟩
  refine wpAny_Call_method_late hbase hfew hline rfl (thn (ho.run pins s σ H _ I h) fun v s1 ⟨k1, x, H1, f1, I1, r1, ty, q1⟩ => ?_)
  obtain ⟨h1, h2⟩ := tyV_is I1 r1 ty
  refine ⟨T, id, pa, slot, hty, h1, h2, ?_⟩
  have hA := ha.run cpos pins s1 σ H1 _ I1 q1
  rw [hs] at hA ⊢
  refine Calls.callWith_builtin (by show (false || (backTo cpos (starEach es X.env)).any (·.1)) = false; rw [hplain] <;> rfl) (Calls.evalArgs_plain ?_)
  exact thn hA fun us s2 ⟨k2, vs, H2, f2, I2, r2, q2⟩ => thn (hm pins s2 σ H2 x vs v us Q I2 r1 r2 q2) fun _ _ z => EK.from (k1.trans k2) (f1.trans f2) z.k
/-! ### calls of defs -/
theorem Inv.afterK {pins : List (Addr × Obj)} {σ : L2.St} {H : Hp} {s s' : Shared} {Q : VK} {u : Value} (I : Inv X pins σ H s) (h : CE X.stack X.prog X.w H s Q u s') : EK X ν pins σ s H Q u s' := by
  have un' : ∃ H', Un (frs X.stack) [] H H' s.heap s'.heap := by
    obtain ⟨_, H', _, _, un, _⟩ := id h
    exact ⟨H', un⟩
  obtain ⟨v, H', os, bare, un, hok, r, q⟩ := h
  obtain ⟨hh, g, d, t, os'⟩ := s'
  obtain rfl : os' = s.os := os
  refine ⟨fun m hm => ?_, v, H', un.frzs, I.call (h' := hh) (g' := g) (d' := d) (t' := t) (ch := []) un hok bare (fun b z => absurd z (by simp)), r, q⟩
  obtain ⟨o', es', ep', ho', r'⟩ := hm
  obtain ⟨sl, hL⟩ := un.any ho' I.free (by simp)
  exact ⟨m, ⟨_, es', ep', hL, r'⟩, fun _ _ => rfl⟩
theorem run_fnK {CX : CXT} {k : Nat} {f : Addr} {fd : FuncData} {ps : List Str} {sp : Sp} {dvs : List V} {ds : List Value} {E : XK} {pins : List (Addr × Obj)} {σ : L2.St} {H : Hp} {s : Shared} {Q : VK} {us : List Value} {vs : List V}
    (F : FnOk X.prog X.w X.K X.mg X.base CX k f fd ps sp) (hr : Room k X.A) (hb : Binds X.K fd ps ds) (hd : Vals dvs ds) (hx : Passes CX X E)
    (I : Inv X pins σ H s) (r : Vals vs us) (h : sp (vs ++ dvs) H Q E) : wpAny (model X.prog X.w) X.A (call (.ref f) us) (EK X ν pins σ s H Q) X.xe s := by
  have r2 : Vals (vs ++ dvs) (us ++ ds) := r.append hd
  have hl : (us ++ ds).length = ps.length := by rw [← r2.length]; exact F.len _ _ _ _ h
  refine wpAny_call (codeAny_mono (F.run X.A X.stack s H ⟨us, []⟩ (us ++ ds) (vs ++ dvs) Q E hr I.env0 (hb s us I.kIn hl) r2 h) fun r s' hq => ?_)
  cases r with
  | error e => exact hx pins σ H s e s' I hq
  | ok fl =>
    cases fl with
    | ret u => exact Inv.afterK I hq
    | next => exact False.elim hq
    | brk => exact False.elim hq
    | cont => exact False.elim hq
theorem pek_call {CX : CXT} {k : Nat} {f : Addr} {fd : FuncData} {ps : List Str} {sp : Sp} {dvs : List V} {ds : List Value} {E : XK} (F : FnOk X.prog X.w X.K X.mg X.base CX k f fd ps sp) (hr : Room k X.A) (hg : Gl X x) (hm : X.mg x = some (.ref f)) (hk : PySem.W.keepIn X.K (.ref f) = true) (hb : Binds X.K fd ps ds) (hd : Vals dvs ds) (hx : Passes CX X E)
    (ha : PAK X ν (e :: es) t) (hdb : (x == ("__debug__" : Str)) = false := by decide) (he : starEach (e :: es) X.env = (false, eval e X.env) :: starEach es X.env := by rfl) (hpl : (backTo pos (starEach es X.env)).any (·.1) = false := by rfl) :
    PEK X ν (.Call (.Name x p) (e :: es) [] pos) (tCall sp dvs E t) := by
  refine ⟨fun pins s σ H Q I h => ?_⟩
  refine wpAny_Call_Name_kw (ld_glob I hg hm ?_ hdb)
  refine PySem.W.callWith_K (h₀ := X.base) I.ok.mod.kin hk (thn (ha.run pos pins s σ H _ I h) fun us s1 ⟨k1, vs, H1, f1, I1, r, q⟩ => ⟨I1.kIn, ?_⟩) he hpl
  exact thn (run_fnK F hr hb hd hx I1 r q) fun _ _ z => EK.from k1 f1 z
/-! ### tests -/
theorem ptk_cmp {op : CmpOp} {r : R2} (ho : OpK X (compareOp op) r) (ha : PEK X ν a ta) (hb : PEK X ν b tb) (hm : behindInMarks op b = false) : PTK X ν (.Compare a [op] [b] pos) (tTest (tOp r ta tb)) := by
  refine ⟨fun pins s σ H Q I h => ?_⟩
  refine wpAny_isTrue_Compare1 (thn (ha.run pins s σ H _ I h) fun v s1 ⟨k1, x, H1, f1, I1, r1, q1⟩ => thn (hb.run pins s1 σ H1 _ I1 q1) fun u s2 ⟨k2, y, H2, f2, I2, r2, q2⟩ =>
    thn (ho pins s2 σ H2 x y v u _ I2 r1 r2 q2) fun c s3 ⟨k3, z, H3, f3, I3, r3, k, e, q3⟩ => ?_) hm
  subst e
  cases r3
  exact wpAny_truthy_bool ⟨(k1.trans k2).trans (Kx.kn k3), H3, (f1.trans f2).trans f3, I3, q3⟩
theorem ptk_val (h : PEK X ν e te) (he : ∀ whole, isTrue e X.env whole = (do let v ← whole; standAt e.pos; holding [v] (truthy v)) := by intro _; rfl) : PTK X ν e (tB te) := by
  refine ⟨fun pins s σ H Q I hw => ?_⟩
  refine isTrue_plain (thn (h.run pins s σ H _ I hw) fun v s1 ⟨k1, x, H1, f1, I1, r1, q1⟩ => ?_) (he _)
  obtain ⟨d, rfl, q⟩ := q1
  cases r1
  exact wpAny_truthy_bool ⟨k1, H1, f1, I1, q⟩
theorem pwk_or1 (ha : PTK X ν a tA) : PWK X ν (.BoolOp .Or [a] pos) tA := by
  refine ⟨fun wh pins s σ H Q I h => ?_⟩
  refine isTrue_or (thn (ha.run pins s σ H Q I h) fun c s1 e => ?_)
  cases c with
  | false => exact isTrue_or_nil e
  | true => exact e
theorem pwk_or {rest : List Expr} (ha : PTK X ν a tA) (hb : PWK X ν (.BoolOp .Or (b :: rest) pos) tB') : PWK X ν (.BoolOp .Or (a :: b :: rest) pos) (tOr tA tB') := by
  refine ⟨fun wh pins s σ H Q I h => ?_⟩
  refine isTrue_or (thn (ha.run pins s σ H _ I h) fun c s1 ⟨k1, H1, f1, I1, q1⟩ => ?_)
  cases c with
  | true => exact ⟨k1, H1, f1, I1, q1⟩
  | false => exact thn (hb.run wh pins s1 σ H1 Q I1 q1) fun _ _ z => TK.from k1 f1 z
theorem PWK.pt (h : PWK X ν e tA) : PTK X ν e tA := ⟨h.run _⟩
theorem ptk_not (ha : PTK X ν a tA) : PTK X ν (.UnaryOp .Not a pos) (tNot tA) := by
  refine ⟨fun pins s σ H Q I h => ?_⟩
  exact isTrue_not (ha.run pins s σ H (fun c H1 => Q (!c) H1) I h)
end

/-! ### statements -/
section
variable {X : Cx} {ν : List Str} {st : Stmt} {sts : List Stmt} {t u : TS} {e : Expr} {te : TE} {pos : Pos} {x : Str}
theorem pssk_nil : PSsK X ν [] tNext := ⟨fun _ _ σ H _ I h => wpAny_execs_nil ⟨Kn.refl, σ, H, Fz.refl, I, h⟩⟩
theorem pssk_cons (h1 : PSK X ν st t) (h2 : PSsK X ν sts u) : PSsK X ν (st :: sts) (tSeq t u) := by
  refine ⟨fun pins s σ H D I h => ?_⟩
  refine wpAny_execs_cons (thn (h1.run pins s σ H { D with nx := u D } I h) fun f s1 q => ?_)
  obtain ⟨k1, q⟩ := q
  cases f with
  | next =>
    obtain ⟨σ', H', f1, I', q⟩ := q
    exact thn (h2.run pins s1 σ' H' D I' q) fun _ _ z => SK.from k1 f1 z
  | ret v => exact ⟨k1, q⟩
  | brk => exact ⟨k1, q⟩
  | cont => exact ⟨k1, q⟩
theorem pssk_one (h1 : PSK X ν st t) : PSsK X ν [st] t := by
  refine ⟨fun pins s σ H D I h => ?_⟩
  refine wpAny_execs_cons (thn (h1.run pins s σ H D I h) fun f s1 q => ?_)
  cases f with
  | next => exact wpAny_execs_nil q
  | ret v => exact q
  | brk => exact q
  | cont => exact q
theorem psk_ret (he : PEK X ν e te) : PSK X ν (.Return (some e) pos) (tRet te) := by
  refine ⟨fun pins s σ H D I h => ?_⟩
  exact wpAny_Return_some (thn (he.run pins s σ H _ I h) fun v s1 ⟨k1, x, H1, f1, I1, r1, q1⟩ => ⟨k1, x, σ, H1, f1, I1, r1, q1⟩)
theorem psk_if {c : Expr} {a b : List Stmt} {tc : TT} (hc : PTK X ν c tc) (ha : PSsK X ν a t) (hb : PSsK X ν b u) : PSK X ν (.If c a b pos) (tIfS tc t u) := by
  refine ⟨fun pins s σ H D I h => ?_⟩
  refine wpAny_If (thn (hc.run pins s σ H _ I h) fun d s1 ⟨k1, H1, f1, I1, q1⟩ => ?_)
  cases d with
  | true => exact thn (ha.run pins s1 σ H1 D I1 q1) fun _ _ z => SK.from k1 f1 z
  | false => exact thn (hb.run pins s1 σ H1 D I1 q1) fun _ _ z => SK.from k1 f1 z
theorem Ns.inj {h : Heap} {a : Addr} {m m' : Str → Option Value} (x : h.Ns a m) (y : h.Ns a m') : m = m' := by
  obtain ⟨o, es, ep, e, d, _, f⟩ := x
  obtain ⟨o', es', ep', e', d', _, f'⟩ := y
  rw [e] at e'
  cases e'
  rw [d] at d'
  cases d'
  funext n
  exact (f n).symm.trans (f' n)
/-- a local name is stored: the frame behind -/
theorem store_k {M : Model} {A : Around} {E : Value → Shared → Prop} {pins : List (Addr × Obj)} {σ : L2.St} {H : Hp} {s : Shared} {i : Nat} {v : V} {u : Value} {m : Str → Option Value} {Q : Unit → Shared → Prop} (I : Inv X pins σ H s) (hN : X.N.Nodup) (hi : X.N[i]? = some x)
    (hk : X.env.scope.names.lookup x = some .local) (r : RelV v u) (hm : s.heap.Ns X.env.locals m)
    (h : ∀ s', Inv X pins (σ.set i (some v)) H s' → s'.heap.Ns X.env.locals (fun y => if y = x then some u else m y) → s.toks ≤ s'.toks → Q () s') : wpAny M A (storeName X.env x u) Q E s := by
  obtain ⟨m0, hn, hl⟩ := id I.loc
  cases Ns.inj hn hm
  have hcls : (X.env.scope.kind == .class || (X.env.scope.kind == .module && X.env.locals != X.env.globals)) = false := by rw [I.ok.kind]; rfl
  have hiσ : i < σ.length := by rw [I.len]; exact (List.getElem?_eq_some_iff.mp hi).1
  have cne := I.cne
  refine wpAny_storeName_local hk hn (fun h' hn' hs => ?_) hcls
  obtain ⟨oL, _, _, hoL, _⟩ := id hn
  have tracked : HOk X.prog X.w H h' := fun b ob e => by
    refine (I.hok b ob e).stay (fun c w' hc q => (hs.2 c ?_).trans q) (fun _ q => q) fun _ _ q => q
    rintro rfl
    rcases hc with rfl | hc
    · rw [I.free] at e; cases e
    · rw [I.free] at hc; cases hc
  refine h _ ⟨I.ok, I.os, I.bare, ⟨fun b o e n hb hx => ?_, fun b o e n hb hx => ?_, I.base.free, fun b o e hx => ?_, I.base.tups, I.base.frzs, I.base.tbls⟩, ⟨_, hn', fun j y v' e1 e2 e3 => ?_⟩, fun y c e => ?_, I.free, I.freeC, fun p hp => ?_, tracked, by simpa using I.len⟩ hn' (Nat.le_succ _)
  · exact (hs.2 b (Nat.ne_of_lt (Nat.lt_of_lt_of_le (Heap.lt_size e) I.ok.above))).trans (I.base.keep b o e n hb hx)
  · obtain ⟨sl, e1⟩ := I.base.slot b o e n hb hx
    exact ⟨sl, (hs.2 b (Nat.ne_of_lt (Nat.lt_of_lt_of_le (Heap.lt_size e) I.ok.above))).trans e1⟩
  · obtain ⟨o', e1⟩ := I.base.there b o e hx
    exact ⟨o', (hs.2 b (Nat.ne_of_lt (Nat.lt_of_lt_of_le (Heap.lt_size e) I.ok.above))).trans e1⟩
  · by_cases hj : j = i
    · subst hj
      rw [hi] at e1; cases e1
      rw [List.getElem?_set_self hiσ] at e2
      cases e2
      exact ⟨u, r, .inl ⟨hk, by simp⟩⟩
    · rw [List.getElem?_set_ne (Ne.symm hj)] at e2
      obtain ⟨u', r', q⟩ := hl j y v' e1 e2 e3
      refine ⟨u', r', ?_⟩
      rcases q with ⟨k, e⟩ | ⟨k, c, e, z⟩
      · refine .inl ⟨k, ?_⟩
        have : y ≠ x := fun e => hj (nodup_ix hN e1 (e ▸ hi))
        simp [this, e]
      · exact .inr ⟨k, c, e, z.sameBut hs (cne y c e)⟩
  · obtain ⟨w', z⟩ := I.cell y c e
    exact ⟨w', z.sameBut hs (cne y c e)⟩
  · obtain ⟨e, n, ne, nf, d⟩ := I.pin p hp
    exact ⟨(hs.2 p.1 ne).trans e, n, ne, nf, d⟩
structure PGK (X : Cx) (ν : List Str) (target : Expr) (t : TG) : Prop where
  run : ∀ (pins : List (Addr × Obj)) (s : Shared) (σ : L2.St) (H : Hp) (v : V) (u : Value) (Q : L2.St → Hp → Prop), Inv X pins σ H s → RelV v u → t v σ H Q →
    wpAny (model X.prog X.w) X.A (assign target X.env u) (fun _ s' => Kn X ν s s' ∧ NK X pins H Q s') X.xe s
theorem pgk_name {i : Nat} (hN : X.N.Nodup) (hi : X.N[i]? = some x) (hk : X.env.scope.names.lookup x = some .local) (hν : x ∉ ν) : PGK X ν (.Name x pos) (gName i) := by
  refine ⟨fun pins s σ H v u Q I r h => ?_⟩
  obtain ⟨m, hm, _⟩ := id I.loc
  refine wpAny_assign_Name (store_k I hN hi hk r hm fun s' I' hn' _ => ⟨fun m0 h0 => ⟨_, hn', fun y hy => ?_⟩, _, H, Fz.refl, I', h⟩)
  cases Ns.inj hm h0
  have : y ≠ x := fun e => hν (e ▸ hy)
  rw [if_neg this]
theorem psk_set {i : Nat} {pos' : Pos} (hN : X.N.Nodup) (hi : X.N[i]? = some x) (hk : X.env.scope.names.lookup x = some .local) (hν : x ∉ ν) (he : PEK X ν e te) (hs : swapsWith e (some (.Name x pos')) pos.line X.env = pure false := by rfl) :
    PSK X ν (.Assign [.Name x pos'] e pos) (tAsg te (gName i)) := by
  refine ⟨fun pins s σ H D I h => ?_⟩
  refine wpAny_Assign_Name (thn (he.run pins s σ H _ I h) fun v s1 ⟨k1, y, H1, f1, I1, r1, q1⟩ => ?_) hs
  obtain ⟨m, hm, _⟩ := id I1.loc
  refine store_k I1 hN hi hk r1 hm fun s' I' hn' _ => ⟨k1.trans fun m0 h0 => ⟨_, hn', fun z hz => ?_⟩, _, H1, f1, I', q1⟩
  cases Ns.inj hm h0
  have : z ≠ x := fun e => hν (e ▸ hz)
  rw [if_neg this]

/-! ### loops -/
structure TurnK (P : Program) (w : World) (K : PySem.W.Frag) (tg : Expr) (J : It) (fp : List Addr) (it : Addr) (tn : Nat → Heap → Prop) : Prop where
  mem : it ∈ fp
  obj : ∀ i h, tn i h → ∀ b ∈ fp, ∃ o, h.get? b = some o ∧ ∀ v, o.data ≠ .cell v
  keep : ∀ i h h', tn i h → (∀ b ∈ fp, ∀ o, h.get? b = some o → h'.get? b = some o) → tn i h'
  item : ∀ (X : Cx), X.prog = P → X.w = w → X.K = K → X.calm = true → ∀ (i : Nat) (pins : List (Addr × Obj)) (s : Shared) (σ : L2.St) (H : Hp) (E : Value → Shared → Prop), Inv X pins σ H s → (∀ b ∈ fp, FpOk X pins H b) → tn i s.heap → J.go i H →
    wpAny (model P w) X.A (pyNext (.ref it)) (fun r s1 => ∃ u, r = some u ∧
      wpAny (model P w) X.A (letOwnedTupleGo tg (.ref it) u) (fun _ s2 => (∀ b o, b ∉ fp → s.heap.get? b = some o → s2.heap.get? b = some o) ∧ ∃ x, Inv X pins σ H s2 ∧ RelV x u ∧ J.yld i H x H ∧ tn (i + 1) s2.heap) E s1) E s
  done : ∀ (X : Cx), X.prog = P → X.w = w → X.K = K → X.calm = true → ∀ (i : Nat) (pins : List (Addr × Obj)) (s : Shared) (σ : L2.St) (H : Hp) (E : Value → Shared → Prop), Inv X pins σ H s → (∀ b ∈ fp, FpOk X pins H b) → tn i s.heap → J.stop i H →
    wpAny (model P w) X.A (pyNext (.ref it)) (fun r s1 => r = none ∧ (∀ b o, b ∉ fp → s.heap.get? b = some o → s1.heap.get? b = some o) ∧ Inv X pins σ H s1) E s
  self : ∀ (A : Around) (i : Nat) (s : Shared) (Q : Value → Shared → Prop) (E : Value → Shared → Prop), tn i s.heap → Q (.ref it) s → wpAny (model P w) A (pyIter (.ref it)) Q E s
theorem turnk_list {P : Program} {w : World} {K : PySem.W.Frag} {tg : Expr} (a it : Addr) : TurnK P w K tg (Itl K a) [it] it (fun i h => h.IsListIter it a i) where
  mem := by simp
  obj := fun i h st b hb => by
    have e : b = it := by simpa using hb
    subst e
    obtain ⟨o, e, c, d⟩ := st
    exact ⟨o, e, fun v z => by rw [d] at z; cases z⟩
  keep := fun i h h' st k => st.at fun o e => k it (by simp) o e
  item := by
    intro X hP hw hK hc i pins s σ H E I hf st hg
    subst hP hw hK
    obtain ⟨xs, x, hq, hx⟩ := hg
    obtain ⟨its, rv, p, hz⟩ := I.list hq
    obtain ⟨u, hu, ru⟩ := rv.get hx
    obtain ⟨f0, f1, f2, f3, f4, f5⟩ := hf it (by simp)
    refine wpAny_pyNext_list_item st p.isList (x := u) (by simpa using hu) fun h' st' sb => ?_
    have I1 : Inv X pins σ H { s with heap := h' } := I.turned (t' := s.toks) (fun b o hb e => (sb.2 b hb).trans e) f0 f1 f3 f4 f5
    obtain ⟨o, e, c, d⟩ := id st'
    exact ⟨u, rfl, go_of (s := { s with heap := h' }) e c d (by decide) ⟨fun b o hb e => (sb.2 b (fun z => hb (by simp [z]))).trans e, x, I1, ru, ⟨rfl, fun ys hy => by rw [I.list_inj hy hq]; exact hx⟩, st'⟩⟩
  done := by
    intro X hP hw hK hc i pins s σ H E I hf st hg
    subst hP hw hK
    obtain ⟨xs, hq, hx⟩ := hg
    obtain ⟨its, rv, p, hz⟩ := I.list hq
    obtain ⟨f0, f1, f2, f3, f4, f5⟩ := hf it (by simp)
    have hl := rv.length
    exact wpAny_pyNext_list_end (I.ok.hd hc) st p.isList (by simp; omega) fun h' eb => ⟨rfl, fun b o hb e => eb b o (fun z => hb (by simp [z])) e, I.turned (t' := s.toks) (fun b o hb e => eb b o hb e) f0 f1 f3 f4 f5⟩
  self := fun _ _ _ _ _ st h => wpAny_pyIter_listiter st h
theorem turnk_tuple {P : Program} {w : World} {K : PySem.W.Frag} {tg : Expr} (a it : Addr) : TurnK P w K tg (Itt K a) [it] it (fun i h => h.IsTupleIter it a i) where
  mem := by simp
  obj := fun i h st b hb => by
    have e : b = it := by simpa using hb
    subst e
    obtain ⟨o, e, c, d⟩ := st
    exact ⟨o, e, fun v z => by rw [d] at z; cases z⟩
  keep := fun i h h' st k => st.at fun o e => k it (by simp) o e
  item := by
    intro X hP hw hK hc i pins s σ H E I hf st hg
    subst hP hw hK
    obtain ⟨xs, x, hq, hx⟩ := hg
    obtain ⟨its, rv, p, hz⟩ := I.tuple hq
    obtain ⟨u, hu, ru⟩ := rv.get hx
    obtain ⟨f0, f1, f2, f3, f4, f5⟩ := hf it (by simp)
    refine wpAny_pyNext_tuple_item st (show s.heap.IsTuple a its.toArray from p) (x := u) (by simpa using hu) fun h' st' sb => ?_
    have I1 : Inv X pins σ H { s with heap := h' } := I.turned (t' := s.toks) (fun b o hb e => (sb.2 b hb).trans e) f0 f1 f3 f4 f5
    obtain ⟨o, e, c, d⟩ := id st'
    exact ⟨u, rfl, go_of (s := { s with heap := h' }) e c d (by decide) ⟨fun b o hb e => (sb.2 b (fun z => hb (by simp [z]))).trans e, x, I1, ru, ⟨rfl, fun ys hy => by rw [I.tuple_inj hy hq]; exact hx⟩, st'⟩⟩
  done := by
    intro X hP hw hK hc i pins s σ H E I hf st hg
    subst hP hw hK
    obtain ⟨xs, hq, hx⟩ := hg
    obtain ⟨its, rv, p, hz⟩ := I.tuple hq
    obtain ⟨f0, f1, f2, f3, f4, f5⟩ := hf it (by simp)
    have hl := rv.length
    exact wpAny_pyNext_tuple_end (I.ok.hd hc) st (show s.heap.IsTuple a its.toArray from p) (by simp; omega) fun h' eb => ⟨rfl, fun b o hb e => eb b o (fun z => hb (by simp [z])) e, I.turned (t' := s.toks) (fun b o hb e => eb b o hb e) f0 f1 f3 f4 f5⟩
  self := fun _ _ _ _ _ st h => wpAny_pyIter_tupleiter st h
theorem turnk_range {P : Program} {w : World} {K : PySem.W.Frag} {tg : Expr} (it : Addr) (lo : Int) (n : Nat) : TurnK P w K tg (Itr lo n) [it] it (fun i h => IsRangeIter h it (lo + (i : Nat) * 1) ((n : Int) - (i : Nat)) 1) where
  mem := by simp
  obj := fun i h st b hb => by
    have e : b = it := by simpa using hb
    subst e
    exact ⟨_, st, fun v z => by
      have z' : Data.fields _ = Data.cell v := z
      cases z'⟩
  keep := fun i h h' st k => k it (by simp) _ st
  item := by
    intro X hP hw hK hc i pins s σ H E I hf st hg
    subst hP hw hK
    obtain ⟨f0, f1, f2, f3, f4, f5⟩ := hf it (by simp)
    have W := Walks.range (prog := X.prog) (w := X.w) (I.ok.hd hc) it lo 1 n
    refine W.item i s _ _ hg st fun v h' tk hv st' kk => ?_
    obtain ⟨t, rfl⟩ := hv
    have I1 : Inv X pins σ H { s with heap := h', toks := tk } := I.turned (fun b o hb e => kk b o (by simpa using hb) e) f0 f1 f3 f4 f5
    refine ⟨_, rfl, go_of (s := { s with heap := h', toks := tk }) (n := "range_iterator") st' rfl rfl (by decide) ⟨fun b o hb e => kk b o hb e, .int (lo + i), I1, ⟨t, ?_⟩, ⟨rfl, rfl⟩, st'⟩⟩
    rw [Int.mul_one]
  done := by
    intro X hP hw hK hc i pins s σ H E I hf st hg
    subst hP hw hK
    obtain ⟨f0, f1, f2, f3, f4, f5⟩ := hf it (by simp)
    exact wpAny_pyNext_range_end (I.ok.hd hc) st (by have : n ≤ i := hg; omega) fun h' eb => ⟨rfl, fun b o hb e => eb b o (fun z => hb (by simp [z])) e, I.turned (t' := s.toks) (fun b o hb e => eb b o hb e) f0 f1 f3 f4 f5⟩
  self := fun _ _ _ _ _ st h => wpAny_pyIter_rangeiter st h
def PIEK (X : Cx) (ν : List Str) (pins : List (Addr × Obj)) (σ : L2.St) (s : Shared) (H : Hp) (tg : Expr) (R : It → Hp → Prop) (itv : Value) (s2 : Shared) : Prop :=
  Kn X ν s s2 ∧ ∃ (it : Addr) (fp : List Addr) (tn : Nat → Heap → Prop) (J : It) (H' : Hp), itv = .ref it ∧ Fz H H' ∧ Inv X pins σ H' s2 ∧ TurnK X.prog X.w X.K tg J fp it tn ∧ tn 0 s2.heap ∧ (∀ b ∈ fp, FpOk X pins H' b) ∧ R J H'
structure PIK (X : Cx) (ν : List Str) (tg iter : Expr) (wi : TI) : Prop where
  run : ∀ (pins : List (Addr × Obj)) (s : Shared) (σ : L2.St) (H : Hp) (R : It → Hp → Prop), Inv X pins σ H s → wi σ H R →
    wpAny (model X.prog X.w) X.A (eval iter X.env) (fun v s1 => wpAny (model X.prog X.w) X.A (pyIter v) (PIEK X ν pins σ s H tg R) X.xe s1) X.xe s
theorem pik_list {tg l : Expr} {tl : TE} (hl : PEK X ν l tl) : PIK X ν tg l (iList X.K tl) := by
  refine ⟨fun pins s σ H R I h => ?_⟩
  refine thn (hl.run pins s σ H _ I h) fun v s1 ⟨k1, x, H1, f1, I1, r1, q1⟩ => ?_
  obtain ⟨a, e, ⟨xs, hq⟩, q⟩ := q1
  subst e
  cases r1
  obtain ⟨its, rv, p, hz⟩ := I1.list hq
  refine wpAny_pyIter_list p.isList ?_
  refine ⟨k1.trans (Kx.kn fun b o e => Heap.get?_push_of_some _ e), s1.heap.objs.size, [s1.heap.objs.size], _, _, H1, rfl, f1, I1.kept (t' := s1.toks) fun b o e => Heap.get?_push_of_some _ e, turnk_list a _, ⟨_, Heap.get?_push_size _ rfl, rfl, rfl⟩, fun b hb => ?_, q⟩
  have e : b = s1.heap.objs.size := by simpa using hb
  subst e
  exact I1.fpOk (Nat.le_refl _) (I1.hok.fresh (Nat.le_refl _))
theorem pik_tup {tg l : Expr} {tl : TE} (hl : PEK X ν l tl) : PIK X ν tg l (iTup X.K tl) := by
  refine ⟨fun pins s σ H R I h => ?_⟩
  refine thn (hl.run pins s σ H _ I h) fun v s1 ⟨k1, x, H1, f1, I1, r1, q1⟩ => ?_
  obtain ⟨a, e, ⟨xs, hq⟩, q⟩ := q1
  subst e
  cases r1
  obtain ⟨its, rv, p, hz⟩ := I1.tuple hq
  refine wpAny_pyIter_tuple (show s1.heap.IsTuple a its.toArray from p) ?_
  refine ⟨k1.trans (Kx.kn fun b o e => Heap.get?_push_of_some _ e), s1.heap.objs.size, [s1.heap.objs.size], _, _, H1, rfl, f1, I1.kept (t' := s1.toks) fun b o e => Heap.get?_push_of_some _ e, turnk_tuple a _, ⟨_, Heap.get?_push_size _ rfl, rfl, rfl⟩, fun b hb => ?_, q⟩
  have e : b = s1.heap.objs.size := by simpa using hb
  subst e
  exact I1.fpOk (Nat.le_refl _) (I1.hok.fresh (Nat.le_refl _))
theorem pik_or {tg it : Expr} {w w' : TI} (h : PIK X ν tg it w) (h' : PIK X ν tg it w') : PIK X ν tg it (fun σ H R => w σ H R ∨ w' σ H R) :=
  ⟨fun pins s σ H R I q => q.elim (h.run pins s σ H R I) (h'.run pins s σ H R I)⟩
/-- a list or a tuple -/
def iSeqK (K : PySem.W.Frag) (te : TE) : TI := fun σ H R => iList K te σ H R ∨ iTup K te σ H R
theorem pik_seq {tg l : Expr} {tl : TE} (hl : PEK X ν l tl) : PIK X ν tg l (iSeqK X.K tl) := pik_or (pik_list hl) (pik_tup hl)
theorem pik_range1 {tg a : Expr} {ta : TA} {p pos : Pos} (hg : Gl X "range") (hm : X.mg "range" = none) (ha : PAK X ν [a] ta) (hs : starEach [a] X.env = [(false, eval a X.env)] := by rfl) : PIK X ν tg (.Call (.Name "range" p) [a] [] pos) (iRng1 ta) := by
  refine ⟨fun pins s σ H R I h => ?_⟩
  refine Call_ (ld_blt I hg hm boot_range (PyProof.Rows.callWith_type1 (thn (ha.run pos pins s σ H _ I h) fun us s1 ⟨k1, vs, H1, f1, I1, r1, q1⟩ => ?_) hs rfl))
  obtain ⟨j, e, h3, h4, q⟩ := q1
  subst e
  cases r1 with
  | cons r rr =>
    cases rr
    obtain ⟨t, rfl⟩ := r
    refine call_range_1 (wpAny_pyIter_range (IsRange.new ..) (small_one (by omega) (by omega) h3 h4) ?_)
    rename_i t1
    have I2 := fun (o : Obj) (tk : Nat) => I1.kept (h' := s1.heap.push o) (t' := tk) fun b ob e => Heap.get?_push_of_some _ e
    refine ⟨k1.trans (Kx.kn fun b o e => Heap.get?_push_of_some _ (Heap.get?_push_of_some _ e)), _, [_], _, _, H1, rfl, f1, (I2 _ _).kept fun b o e => Heap.get?_push_of_some _ e, turnk_range _ 0 j.toNat, ?_, fun b hb => ?_, q⟩
    · have e1 : (0 : Int) + ((0 : Nat) : Int) * 1 = 0 := by simp
      have e2 : ((j.toNat : Nat) : Int) - ((0 : Nat) : Int) = Builtin.Range.rangeSize 0 j 1 := by rw [rangeSize_one]; split <;> omega
      show IsRangeIter _ _ ((0 : Int) + ((0 : Nat) : Int) * 1) (((j.toNat : Nat) : Int) - ((0 : Nat) : Int)) 1
      rw [e1, e2]
      exact Heap.get?_push_size _ rfl
    · rw [List.mem_singleton] at hb
      subst hb
      exact (I2 _ s1.toks).fpOk (Nat.le_refl _) ((I2 _ s1.toks).hok.fresh (Nat.le_refl _))
theorem psk_for {tg iter : Expr} {body : List Stmt} {wi : TI} {g : TG} {tb : TS} {pos : Pos} (hp : PassesOwn (model X.prog X.w) X.A X.env X.xe) (hc : X.calm = true) (hi : PIK X ν tg iter wi) (hg : PGK X ν tg g) (hb : PSsK X ν body tb)
    (hs : ∀ x, foldedSetIterable iter X.env x = pure x := by intro _; rfl) : PSK X ν (.For tg iter body [] pos) (tFor wi g tb) := by
  refine ⟨fun pins s σ H D I h => ?_⟩
  refine wpAny_For (thn (hi.run pins s σ H _ I h) fun v s1 h1 => thn h1 fun itv s2 h2 => ?_) hs
  obtain ⟨k2, it, fp, tn, J, H2, e, z2, I2, T, st2, f2, W, ⟨m0, w0⟩, turn⟩ := h2
  subst e
  have stat : ∀ {H' : Hp}, (∀ b ∈ fp, H' b = none) → ∀ b ∈ fp, FpOk X pins H' b := fun hn b hb => ⟨hn b hb, (f2 b hb).2⟩
  have kL : ∀ {s s' : Shared}, (∀ b o, b ∉ fp → s.heap.get? b = some o → s'.heap.get? b = some o) → Kn X ν s s' := fun {s s'} k m hm => by
    obtain ⟨o', es', ep', ho', r'⟩ := hm
    exact ⟨m, ⟨_, es', ep', k _ _ (fun z => (f2 _ z).2.1 rfl) ho', r'⟩, fun _ _ => rfl⟩
  refine codeAny_forLoop_any (fun n s' => Kn X ν s s' ∧ ∃ i σ' H', Fz H H' ∧ Inv X pins σ' H' s' ∧ tn i s'.heap ∧ (∀ b ∈ fp, H' b = none) ∧ W i n σ' H') ?_ m0 ⟨k2, 0, σ, H2, z2, I2, st2, fun b hb => (f2 b hb).1, w0⟩
  rintro n s3 ⟨k3, i, σ3, H3, z3, I3, st3, fr3, w3⟩
  rcases turn i n σ3 H3 w3 with ⟨stop, qn⟩ | ⟨go, N, hN, step⟩
  · refine wpAny_passesOwn hp (thn (T.done X rfl rfl rfl hc i pins s3 σ3 H3 X.xe I3 (stat fr3) st3 stop) fun r s4 ⟨hr, k4, I4⟩ => ?_)
    subst hr
    exact wpAny_execs_nil ⟨k3.trans (kL k4), σ3, H3, z3, I4, qn⟩
  · refine wpAny_passesOwn hp (thn (T.item X rfl rfl rfl hc i pins s3 σ3 H3 X.xe I3 (stat fr3) st3 go) fun r s4 ⟨u, hr, h4⟩ => ?_)
    subst hr
    refine wpAny_passesOwn hp (thn h4 fun _ s5 ⟨k5, x, I5, r5, y5, st5⟩ => ?_)
    have I5' := I5.pinned (stat fr3) (T.obj _ _ st5)
    refine wpAny_passesOwn hp (thn (hg.run _ s5 σ3 H3 x u _ I5' r5 (step x H3 y5)) fun _ s6 ⟨k6, σ6, H6, z6, I6, q6⟩ => ?_)
    refine wpAny_passesOwn hp (thn (hb.run _ s6 σ6 H6 _ I6 q6) fun f s7 q7 => ?_)
    obtain ⟨k7, q7⟩ := q7
    have kk : Kn X ν s s7 := ((k3.trans (kL k5)).trans k6).trans k7
    have again : ∀ {σ7 : L2.St} {H7 : Hp}, Fz H6 H7 → Inv X (pins ++ pinsAt fp s5.heap) σ7 H7 s7 → N σ7 H7 → ∃ m, m < n ∧ Kn X ν s s7 ∧ ∃ i σ' H', Fz H H' ∧ Inv X pins σ' H' s7 ∧ tn i s7.heap ∧ (∀ b ∈ fp, H' b = none) ∧ W i m σ' H' := fun {σ7 H7} z7 I7 n7 => by
      obtain ⟨m', hm, w7⟩ := hN σ7 H7 n7
      refine ⟨m', hm, kk, i + 1, σ7, H7, (z3.trans z6).trans z7, I7.unpinned, T.keep _ _ _ st5 fun b hb o e => (I7.pin (b, o) (List.mem_append_right _ (List.mem_append_right _ (mem_pinsAt hb e)))).1, fun b hb => ?_, w7⟩
      obtain ⟨o, e, d⟩ := T.obj _ _ st5 b hb
      exact (I7.pin (b, o) (List.mem_append_right _ (List.mem_append_right _ (mem_pinsAt hb e)))).2.1
    cases f with
    | next => obtain ⟨σ7, H7, z7, I7, n7⟩ := q7; exact again z7 I7 n7
    | cont => obtain ⟨σ7, H7, z7, I7, n7⟩ := q7; exact again z7 I7 n7
    | brk => obtain ⟨σ7, H7, z7, I7, q7⟩ := q7; exact ⟨kk, σ7, H7, (z3.trans z6).trans z7, I7.unpinned, q7⟩
    | ret v => obtain ⟨x7, σ7, H7, z7, I7, r7, q7⟩ := q7; exact ⟨kk, x7, σ7, H7, (z3.trans z6).trans z7, I7.unpinned, r7, q7⟩
theorem callk_isi : CallK X (.builtin "isinstance") (rIsi X.K) := by
  intro pins s σ H xs us Q I r h
  obtain ⟨x, c, t, u, b, rfl, k, ty, e, q⟩ := h
  obtain ⟨u1, u2, rfl, r1, r2⟩ := vals2 r
  have e2 := k.eq r2
  subst e2
  obtain ⟨P, Z, p, hx⟩ := kit_of I r1 ty
  exact PySem.W.kia_one Z I.kIn p e hx fun tk => ev_tok I (x := .bl b) rfl q
end
end DD

set_option Elab.async false
set_option linter.all false
set_option maxRecDepth 100000
set_option maxHeartbeats 4000000
/-! DD11: facts of tokens (N-judgements), str.replace with a count of one. -/
namespace PySem
open Builtin Builtin.Str
/-- x.replace(y, z, 1) -/
def Txt.replace1 (x y z : Str) : Str :=
  if ((occurrences x y 0 x.length 1).isEmpty || (y.length == 0 && z.length == 0)) = true then x else glued z (partsBetween x (occurrences x y 0 x.length 1) y.length)
theorem gives_str_replace1 (x y z : Str) (t u v k : Tok)
    (hf : (u == 0 || v == 0) = false ∧ (u == v) = false ∧ tooLong (x.length + (occurrences x y 0 x.length 1).length * z.length) = false) :
    GivesAt (fun s => NoneBooked s.heap) («str.replace» ⟨[.str x t, .str y u, .str z v, .int 1 k], []⟩)
      (if ((occurrences x y 0 x.length 1).isEmpty || (y.length == 0 && z.length == 0)) = true then .val (.str x t)
       else if (y == z) = true then .either (.val (.str x t)) (.str (glued z (partsBetween x (occurrences x y 0 x.length 1) y.length)))
       else .str (glued z (partsBetween x (occurrences x y 0 x.length 1) y.length))) := by
  show GivesAt _ (if ((occurrences x y 0 x.length 1).isEmpty || (y.length == 0 && z.length == 0)) = true then (do rule "str.replace.nothing"; ret (.str x t)) else
          (do let same ← isSame (.str y u) (.str z v)
              if same = true then (do rule "str.replace.old-is-new"; ret (.str x t)) else
              if tooLong (x.length + (occurrences x y 0 x.length 1).length * z.length) = true then unsupported "str.replace:memory" else
              retStr (glued z (partsBetween x (occurrences x y 0 x.length 1) y.length)))) _
  obtain ⟨h0, huv, hl⟩ := hf
  cases hc : ((occurrences x y 0 x.length 1).isEmpty || (y.length == 0 && z.length == 0))
  · cases hyz : (y == z)
    · rw [isSame_str_other y z u v h0 huv hyz, hl]
      exact Gives.at (.of_eq rfl)
    · intro prog w A R s hb hq
      show wpAny _ _ (isSame (.str y u) (.str z v) >>= _) _ _ _
      refine wpAny_bind (wpAny_isSame_str h0 hb fun b => ?_)
      cases b
      · show wpAny _ _ (if tooLong (x.length + (occurrences x y 0 x.length 1).length * z.length) = true then _
                         else retStr (glued z (partsBetween x (occurrences x y 0 x.length 1) y.length))) _ _ _
        rw [hl]
        exact wpAny_bind (wpAny_mkStr (wpAny_pure hq.2.2) hq.2.1)
      · exact wpAny_bind (wpAny_rule (wpAny_pure hq.1))
  · exact Gives.at (.rule (.of_eq rfl))
theorem replace1_len (x y z : Str) : (Txt.replace1 x y z).length ≤ x.length + z.length := by
  unfold Txt.replace1
  split
  · omega
  · have h1 := StrLaws.occ_length_le x y 0 x.length 1
    have hy : (glued y (partsBetween x (occurrences x y 0 x.length 1) y.length)).length = x.length := by rw [StrLaws.glued_between_self]
    rw [size_glued, length_partsBetween, Nat.add_sub_cancel] at hy
    rw [size_glued, length_partsBetween, Nat.add_sub_cancel]
    have h2 : (occurrences x y 0 x.length 1).length * z.length ≤ 1 * z.length := Nat.mul_le_mul_right _ h1
    omega
namespace SC
theorem replace1 {prog : Program} {w : World} {A : Around} {E : Value → Shared → Prop} {s : Shared} {x y z : Str} {t u v k : Tok} {Q : Value → Shared → Prop} (hu : u ≠ 0) (hv : v ≠ 0) (huv : u ≠ v) (hb : x.length + z.length ≤ 16777216)
    (hq : ∀ t' k, Q (.str (Txt.replace1 x y z) t') { s with toks := k }) (hnb : NoneBooked s.heap) :
    wpAny (model prog w) A (call (.builtin "str.replace") [.str x t, .str y u, .str z v, .int 1 k]) Q E s := by
  have hlen := replace1_len x y z
  have hl : tooLong (x.length + (occurrences x y 0 x.length 1).length * z.length) = false := by
    have h1 := StrLaws.occ_length_le x y 0 x.length 1
    have h2 : (occurrences x y 0 x.length 1).length * z.length ≤ 1 * z.length := Nat.mul_le_mul_right _ h1
    unfold tooLong sizeLine
    exact decide_eq_false (by omega)
  refine call_givesAt F.slot_str_replace (typeIs_str _ _ _) F.entry_str_replace (F.args_str_replace_4 _ _ _ _)
    (gives_str_replace1 x y z t u v k ⟨by simp [hu, hv], by simp [huv], hl⟩) hnb ?_
  have hq' := hq
  unfold Txt.replace1 at hq' hlen
  cases hc : ((occurrences x y 0 x.length 1).isEmpty || (y.length == 0 && z.length == 0))
  · rw [hc] at hq' hlen
    simp only [Bool.false_eq_true, if_false] at hq' hlen ⊢
    cases hyz : (y == z)
    · simp only [Bool.false_eq_true, if_false]
      exact ⟨by rw [sizeLine_eq]; omega, hq' _ _⟩
    · simp only [if_true]
      have e : y = z := eq_of_beq hyz
      subst e
      rw [StrLaws.glued_between_self] at hq' hlen ⊢
      dsimp only [Made.post]
      exact ⟨hq' t s.toks, by rw [sizeLine_eq]; omega, hq' _ _⟩
  · rw [hc] at hq'
    simp only [if_true] at hq' ⊢
    exact hq' t s.toks
end SC
end PySem

namespace DD
open PySem PySem.Spec PyProof.Rows L2 Evl

/-! ### facts -/
structure Fact where
  x : Str
  L : Bool
  P : Nat → Nat → Prop
def GoodT (P : Nat → Prop) (o : Option Value) : Prop := ∀ z t, o = some (.str z t) → P t
def GoodI (P : Nat → Prop) (its : List Value) : Prop := ∀ z t, Value.str z t ∈ its → P t
def GoodL (P : Nat → Prop) (H : Hp) (u : Value) : Prop := ∃ p ob its n ys, u = .ref p ∧ H p = some (.frz ob (.lst ys)) ∧ ob.data = .seq its n ∧ GoodI P its.toList
def Fact.ok (f : Fact) (n : Nat) (m : Str → Option Value) (H : Hp) : Prop := (f.L = true → ∃ u, m f.x = some u ∧ GoodL (f.P n) H u) ∧ (f.L = false → GoodT (f.P n) (m f.x))
abbrev names (τ : List Fact) : List Str := τ.map (·.x)
def Nz (X : Cx) (n0 : Nat) (τ : List Fact) (s : Shared) (H : Hp) : Prop := n0 ≤ s.toks ∧ ∃ m, s.heap.Ns X.env.locals m ∧ ∀ f ∈ τ, f.ok s.toks m H
def Mono (τ : List Fact) : Prop := ∀ f ∈ τ, ∀ n n' t, n ≤ n' → f.P n t → f.P n' t
section
variable {X : Cx} {n0 : Nat} {τ : List Fact} {s s' : Shared} {H H' : Hp}
theorem GoodL.mono {P P' : Nat → Prop} {u : Value} (hp : ∀ t, P t → P' t) (z : Fz H H') (h : GoodL P H u) : GoodL P' H' u := by
  obtain ⟨p, ob, its, n, ys, e, h1, h2, h3⟩ := h
  exact ⟨p, ob, its, n, ys, e, z _ _ _ h1, h2, fun y t q => hp t (h3 y t q)⟩
theorem Fact.ok.keep {f : Fact} {n n' : Nat} {m m' : Str → Option Value} (mo : ∀ n n' t, n ≤ n' → f.P n t → f.P n' t) (hn : n ≤ n') (hm : m' f.x = m f.x) (z : Fz H H') (h : f.ok n m H) : f.ok n' m' H' := by
  refine ⟨fun e => ?_, fun e y t q => ?_⟩
  · obtain ⟨u, h1, h2⟩ := h.1 e
    exact ⟨u, hm.trans h1, h2.mono (fun t => mo n n' t hn) z⟩
  · rw [hm] at q
    exact mo n n' t hn (h.2 e y t q)
theorem Nz.keep (mo : Mono τ) (k : Kn X (names τ) s s') (t : s.toks ≤ s'.toks) (z : Fz H H') (h : Nz X n0 τ s H) : Nz X n0 τ s' H' := by
  obtain ⟨h0, m, h1, h2⟩ := h
  obtain ⟨m', h3, h4⟩ := k m h1
  exact ⟨Nat.le_trans h0 t, m', h3, fun f hf => (h2 f hf).keep (mo f hf) t (h4 f.x (List.mem_map.mpr ⟨f, hf, rfl⟩)) z⟩
theorem raw_at {pins : List (Addr × Obj)} {σ : L2.St} {i : Nat} {x : Str} {v : V} {m : Str → Option Value} (I : Inv X pins σ H s) (hm : s.heap.Ns X.env.locals m) (hN : X.N[i]? = some x) (hk : X.env.scope.names.lookup x = some .local) (hσ : σ[i]? = some (some v)) :
    ∃ u, RelV v u ∧ m x = some u := by
  obtain ⟨m0, hn, hl⟩ := I.loc
  cases Ns.inj hm hn
  obtain ⟨u, r, l⟩ := hl i x v hN hσ (.inl hk)
  rcases l with ⟨_, l⟩ | ⟨k, _⟩
  · exact ⟨u, r, l⟩
  · have k0 : X.env.kindOf x = some .local := hk
    rw [k0] at k
    rcases k with k | k <;> cases k
theorem raw_ld {pins : List (Addr × Obj)} {σ : L2.St} {x : Str} {u : Value} {m : Str → Option Value} {pos : Pos} {Q E : Value → Shared → Prop} (I : Inv X pins σ H s) (hm : s.heap.Ns X.env.locals m) (hk : X.env.scope.names.lookup x = some .local) (hu : m x = some u) (h : Q u s)
    (hd : (x == ("__debug__" : Str)) = false) : wpAny (model X.prog X.w) X.A (eval (.Name x pos) X.env) Q E s := wpAny_Name (wpAny_loadName_local I.ok.kind hk hm hu h) hd
end
structure PEN (X : Cx) (n0 : Nat) (τ : List Fact) (e : Expr) (t : TE) : Prop where
  run : ∀ (pins : List (Addr × Obj)) (s : Shared) (σ : L2.St) (H : Hp) (Q : VK), Inv X pins σ H s → Nz X n0 τ s H → t σ H Q → wpAny (model X.prog X.w) X.A (eval e X.env) (EK X (names τ) pins σ s H Q) X.xe s
structure PAN (X : Cx) (n0 : Nat) (τ : List Fact) (es : List Expr) (t : TA) : Prop where
  run : ∀ (pos : Pos) (pins : List (Addr × Obj)) (s : Shared) (σ : L2.St) (H : Hp) (Q : List V → Hp → Prop), Inv X pins σ H s → Nz X n0 τ s H → t σ H Q → wpAny (model X.prog X.w) X.A (spliced (backTo pos (starEach es X.env))) (AK X (names τ) pins σ s H Q) X.xe s
structure PSN (X : Cx) (n0 : Nat) (τ : List Fact) (st : Stmt) (t : TS) : Prop where
  run : ∀ (pins : List (Addr × Obj)) (s : Shared) (σ : L2.St) (H : Hp) (D : Ends), Inv X pins σ H s → Nz X n0 τ s H → t D σ H → wpAny (model X.prog X.w) X.A (exec st X.env) (SK X (names τ) pins s H D) X.xe s
structure PSsN (X : Cx) (n0 : Nat) (τ : List Fact) (st : List Stmt) (t : TS) : Prop where
  run : ∀ (pins : List (Addr × Obj)) (s : Shared) (σ : L2.St) (H : Hp) (D : Ends), Inv X pins σ H s → Nz X n0 τ s H → t D σ H → wpAny (model X.prog X.w) X.A (execs st X.env) (SK X (names τ) pins s H D) X.xe s
structure PSZ (X : Cx) (n0 : Nat) (τ τ' : List Fact) (st : Stmt) (t : TS) : Prop where
  run : ∀ (pins : List (Addr × Obj)) (s : Shared) (σ : L2.St) (H : Hp) (D : Ends), Inv X pins σ H s → Nz X n0 τ s H → t D σ H →
    wpAny (model X.prog X.w) X.A (exec st X.env) (fun f s' => f = .next ∧ ∃ σ' H', Inv X pins σ' H' s' ∧ Nz X n0 τ' s' H' ∧ D.nx σ' H') X.xe s
structure PBN (X : Cx) (n0 : Nat) (τ : List Fact) (sts : List Stmt) (t : TS) : Prop where
  run : ∀ (pins : List (Addr × Obj)) (s : Shared) (σ : L2.St) (H : Hp) (D : Ends), Inv X pins σ H s → Nz X n0 τ s H → t D σ H → wpAny (model X.prog X.w) X.A (execs sts X.env) (SP X pins D) X.xe s

section
variable {X : Cx} {n0 : Nat} {τ τ' : List Fact} {a b c e o : Expr} {es : List Expr} {ta tb tc te to : TE} {t : TA} {pos p p2 p3 apos cpos : Pos} {x y : Str} {st : Stmt} {sts : List Stmt} {ts tu : TS}
theorem pen_of (h : PEK X (names τ) e te) : PEN X n0 τ e te := ⟨fun pins s σ H Q I _ q => h.run pins s σ H Q I q⟩
theorem pan_nil : PAN X n0 τ [] tNil := ⟨fun pos pins s σ H Q I _ q => pak_nil.run pos pins s σ H Q I q⟩
theorem pan_of (h : PAK X (names τ) es t) : PAN X n0 τ es t := ⟨fun pos pins s σ H Q I _ q => h.run pos pins s σ H Q I q⟩
theorem pan_cons (mo : Mono τ) (ha : PEN X n0 τ e te) (hr : PAN X n0 τ es t) (hs : starEach (e :: es) X.env = (false, eval e X.env) :: starEach es X.env := by rfl) : PAN X n0 τ (e :: es) (tCons te t) := by
  refine ⟨fun pos pins s σ H Q I z h => ?_⟩
  rw [hs]
  show wpAny _ _ (spliced ((false, eval e X.env) :: backTo pos (starEach es X.env))) _ _ s
  refine Calls.spliced_cons (thn' (PySem.wpAny_toks (ha.run pins s σ H _ I z h)) fun u s1 ⟨t1, k1, x, H1, f1, I1, r1, q1⟩ => ?_)
  exact thn (hr.run pos pins s1 σ H1 _ I1 (z.keep mo k1 t1 f1) q1) fun us s2 ⟨k2, xs, H2, f2, I2, r2, q2⟩ => ⟨k1.trans k2, x :: xs, H2, f1.trans f2, I2, .cons r1 r2, q2⟩
where thn' {α : Type} {t : Sem α} {Q Q' : α → Shared → Prop} {M : Model} {A : Around} {E : Value → Shared → Prop} {s : Shared} {n : Nat} (h : wpAny M A t (fun a s' => n ≤ s'.toks ∧ Q a s') (fun e s' => n ≤ s'.toks ∧ E e s') s) (hQ : ∀ a s', (n ≤ s'.toks ∧ Q a s') → Q' a s') : wpAny M A t Q' E s :=
  wpAny_mono h hQ fun _ _ x => x.2
/-- weaken, the tokens have grown -/
theorem thk {α : Type} {t : Sem α} {Q Q' : α → Shared → Prop} {M : Model} {A : Around} {E : Value → Shared → Prop} {s : Shared} (h : wpAny M A t Q E s) (hQ : ∀ a s', s.toks ≤ s'.toks → Q a s' → Q' a s') : wpAny M A t Q' E s :=
  wpAny_mono (PySem.wpAny_toks h) (fun a s' z => hQ a s' z.1 z.2) fun _ _ x => x.2
theorem pen_lst (h : PAN X n0 τ es t) : PEN X n0 τ (.List es pos) (tLst t) := by
  refine ⟨fun pins s σ H Q I z hq => ?_⟩
  refine wpAny_List_spliced (thn (h.run pos pins s σ H _ I z hq) fun us s1 ⟨k1, xs, H1, f1, I1, r, z, q⟩ => ⟨by rw [← r.length]; exact z, ?_⟩)
  exact EK.from k1 f1 (ev_lst (k := s1.toks) I1 r z (fun b u e => Heap.get?_push_of_some _ e) (Heap.get?_push_size _ rfl) q).k
theorem pen_op (mo : Mono τ) {op : Operator} {r : R2} (ho : OpK X (binaryOp op) r) (ha : PEN X n0 τ a ta) (hb : PEN X n0 τ b tb) : PEN X n0 τ (.BinOp a op b pos) (tOp r ta tb) := by
  refine ⟨fun pins s σ H Q I z h => ?_⟩
  refine wpAny_BinOp (thk (ha.run pins s σ H _ I z h) fun v s1 t1 ⟨k1, x, H1, f1, I1, r1, q1⟩ => ?_)
  refine thn (hb.run pins s1 σ H1 _ I1 (z.keep mo k1 t1 f1) q1) fun u s2 ⟨k2, y, H2, f2, I2, r2, q2⟩ => ?_
  exact thn (ho pins s2 σ H2 x y v u Q I2 r1 r2 q2) fun _ _ z => EK.from (k1.trans k2) (f1.trans f2) z.k

/-! ### replace with a count of one -/
/-- two raw texts of good tokens and a one -/
def RawArgs (us : List Value) : Prop := ∀ y z t u w, us = [.str y t, .str z u, w] → @Ne Nat t 0 ∧ @Ne Nat u 0 ∧ @Ne Nat t u
structure PRN (X : Cx) (n0 : Nat) (τ : List Fact) (es : List Expr) (t : TA) : Prop where
  run : ∀ (pos : Pos) (pins : List (Addr × Obj)) (s : Shared) (σ : L2.St) (H : Hp) (Q : List V → Hp → Prop), Inv X pins σ H s → Nz X n0 τ s H → t σ H Q →
    wpAny (model X.prog X.w) X.A (spliced (backTo pos (starEach es X.env))) (fun us s' => AK X (names τ) pins σ s H Q us s' ∧ RawArgs us) X.xe s
/-- written texts -/
theorem prn_const {y z : Str} {i : Int} {j0 j1 j2 : Nat} {q0 q1 q2 : Pos} (h1 : 1 ≤ n0) :
    PRN X n0 τ [.Constant (.str y) j0 q0, .Constant (.str z) j1 q1, .Constant (.int i) j2 q2] (tCons (tC (.str y)) (tCons (tC (.str z)) (tCons (tC (.int i)) tNil))) := by
  refine ⟨fun pos pins s σ H Q I z0 h => ?_⟩
  have h0 := z0.1
  show wpAny _ _ (spliced ((false, eval (.Constant (.str y) j0 q0) X.env) :: (false, eval (.Constant (.str z) j1 q1) X.env) :: (false, eval (.Constant (.int i) j2 q2) X.env) :: [])) _ _ s
  refine Calls.spliced_cons (Calls.Constant_str (Calls.spliced_cons (Calls.Constant_str (Calls.spliced_cons (wpAny_Constant_int (Calls.spliced_nil ?_))))))
  refine ⟨⟨Kx.kn fun _ _ e => e, [.str y, .str z, .int i], H, Fz.refl, I.tok _, .cons ⟨_, rfl⟩ (.cons ⟨_, rfl⟩ (.cons ⟨_, rfl⟩ .nil)), h⟩, fun y' z' t u w e => ?_⟩
  simp only [List.cons.injEq, Value.str.injEq, and_true] at e
  obtain ⟨⟨_, e1⟩, ⟨_, e2⟩, _⟩ := e
  have e2' : s.toks + 1 = u := e2
  have e1' : s.toks = t := e1
  exact ⟨by omega, by omega, by omega⟩
variable {P P' : Nat → Nat → Prop}
/-- two names -/
theorem prn_names {i k : Nat} {v : Int} {j : Nat} {q0 q1 q2 : Pos} (hx : ⟨x, false, P⟩ ∈ τ) (hy : ⟨y, false, P'⟩ ∈ τ) (hd : ∀ n t u, P n t → P' n u → t ≠ 0 ∧ u ≠ 0 ∧ t ≠ u)
    (hN : X.N[i]? = some x := by rfl) (hk : X.env.scope.names.lookup x = some .local := by rfl) (hN2 : X.N[k]? = some y := by rfl) (hk2 : X.env.scope.names.lookup y = some .local := by rfl) (hd1 : (x == ("__debug__" : Str)) = false := by decide) (hd2 : (y == ("__debug__" : Str)) = false := by decide) :
    PRN X n0 τ [.Name x q0, .Name y q1, .Constant (.int v) j q2] (tCons (tVar i) (tCons (tVar k) (tCons (tC (.int v)) tNil))) := by
  refine ⟨fun pos pins s σ H Q I z0 h => ?_⟩
  obtain ⟨h0, m, hm, hf⟩ := z0
  obtain ⟨vx, e1, vy, e2, h⟩ := h
  obtain ⟨ux, rx, mx⟩ := raw_at I hm hN hk e1
  obtain ⟨uy, ry, my⟩ := raw_at I hm hN2 hk2 e2
  show wpAny _ _ (spliced ((false, eval (.Name x q0) X.env) :: (false, eval (.Name y q1) X.env) :: (false, eval (.Constant (.int v) j q2) X.env) :: [])) _ _ s
  refine Calls.spliced_cons (raw_ld I hm hk mx (Calls.spliced_cons (raw_ld I hm hk2 my (Calls.spliced_cons (wpAny_Constant_int (Calls.spliced_nil ?_))) hd2)) hd1)
  refine ⟨⟨Kx.kn fun _ _ e => e, [vx, vy, .int v], H, Fz.refl, I.tok _, .cons rx (.cons ry (.cons ⟨_, rfl⟩ .nil)), h⟩, fun y' z' t u w e => ?_⟩
  simp only [List.cons.injEq, and_true] at e
  obtain ⟨e1, e2, _⟩ := e
  subst e1 e2
  exact hd _ _ _ ((hf _ hx).2 rfl _ _ mx) ((hf _ hy).2 rfl _ _ my)
/-- what + of texts gives, to the token -/
theorem add_raw {prog : Program} {w : World} {A : Around} {E : Value → Shared → Prop} {s : Shared} {y z : Str} {t u : Tok} {Q : Value → Shared → Prop} (hz : y.length + z.length ≤ sizeLine) (hq : ∀ t' k, (t' = s.toks ∨ (y.length = 0 ∧ t' = u) ∨ (z.length = 0 ∧ t' = t)) → Q (.str (y ++ z) t') { s with toks := k }) :
    wpAny (model prog w) A (binaryOp .Add (.str y t) (.str z u)) Q E s := by
  have e0 : ∀ a : Str, a.length = 0 → a = Str.empty := fun a h => by
    cases a with
    | mk c =>
      have : c = #[] := Array.size_eq_zero_iff.mp h
      subst this
      rfl
  have elen : (y ++ z).length = y.length + z.length := by
    show (y.cps ++ z.cps).size = _
    rw [Array.size_append]
    rfl
  refine PySem.P.add_str ?_
  by_cases c1 : y.length = 0
  · have e := e0 y c1
    have c1' : (y.length == 0) = true := beq_iff_eq.mpr c1
    rw [if_pos c1']
    have h := hq u s.toks (.inr (.inl ⟨c1, rfl⟩))
    have e2 : y ++ z = z := by
      subst e
      show (⟨#[] ++ z.cps⟩ : Str) = z
      rw [Array.empty_append]
    rw [e2] at h
    exact h
  · have c1' : ¬ (y.length == 0) = true := fun h => c1 (beq_iff_eq.mp h)
    rw [if_neg c1']
    by_cases c2 : z.length = 0
    · have e := e0 z c2
      have c2' : (z.length == 0) = true := beq_iff_eq.mpr c2
      rw [if_pos c2']
      have h := hq t s.toks (.inr (.inr ⟨c2, rfl⟩))
      have e2 : y ++ z = y := by
        subst e
        show (⟨y.cps ++ #[]⟩ : Str) = y
        rw [Array.append_empty]
      rw [e2] at h
      exact h
    · have c2' : ¬ (z.length == 0) = true := fun h => c2 (beq_iff_eq.mp h)
      rw [if_neg c2']
      exact ⟨by rw [elen]; exact hz, hq s.toks _ (.inl rfl)⟩
/-- word, word + c -/
theorem prn_addR {i : Nat} {z : Str} {v : Int} {j j1 : Nat} {q0 q1 q2 q3 q4 : Pos} (hx : ⟨x, false, P⟩ ∈ τ) (hP : ∀ n t, P n t → t ≠ 0 ∧ t < n) (hz : z.length ≠ 0)
    (hN : X.N[i]? = some x := by rfl) (hk : X.env.scope.names.lookup x = some .local := by rfl) (hd1 : (x == ("__debug__" : Str)) = false := by decide) :
    PRN X n0 τ [.Name x q0, .BinOp (.Name x q1) .Add (.Constant (.str z) j1 q3) q4, .Constant (.int v) j q2] (tCons (tVar i) (tCons (tOp rCatS (tVar i) (tC (.str z))) (tCons (tC (.int v)) tNil))) := by
  refine ⟨fun pos pins s σ H Q I z0 h => ?_⟩
  obtain ⟨h0, m, hm, hf⟩ := z0
  obtain ⟨vx, e1, vx2, e2, a, b, ea, eb, hl, h⟩ := h
  rw [e1] at e2
  cases e2
  subst ea
  cases eb
  obtain ⟨ux, rx, mx⟩ := raw_at I hm hN hk e1
  obtain ⟨t, rfl⟩ := rx
  obtain ⟨ht0, htn⟩ := hP _ _ ((hf _ hx).2 rfl _ _ mx)
  show wpAny _ _ (spliced ((false, eval (.Name x q0) X.env) :: (false, eval (.BinOp (.Name x q1) .Add (.Constant (.str z) j1 q3) q4) X.env) :: (false, eval (.Constant (.int v) j q2) X.env) :: [])) _ _ s
  refine Calls.spliced_cons (raw_ld I hm hk mx (Calls.spliced_cons (wpAny_BinOp (raw_ld I hm hk mx (Calls.Constant_str (add_raw hl fun t' k ht' => Calls.spliced_cons (wpAny_Constant_int (Calls.spliced_nil ?_)))) hd1))) hd1)
  refine ⟨⟨Kx.kn fun _ _ e => e, [.str a, .str (a ++ z), .int v], H, Fz.refl, I.tok _, .cons ⟨t, rfl⟩ (.cons ⟨t', rfl⟩ (.cons ⟨_, rfl⟩ .nil)), h⟩, fun y' z' t1 u1 w e => ?_⟩
  simp only [List.cons.injEq, Value.str.injEq, and_true] at e
  obtain ⟨⟨_, e1⟩, ⟨_, e2⟩, _⟩ := e
  subst e1
  have e2' : t' = u1 := e2
  rcases ht' with q | ⟨_, q⟩ | ⟨q, _⟩
  · have q' : t' = s.toks + 1 := q
    exact ⟨ht0, by omega, by omega⟩
  · have q' : t' = s.toks := q
    exact ⟨ht0, by omega, by omega⟩
  · exact absurd q hz
/-- word, c + word -/
theorem prn_addL {i : Nat} {z : Str} {v : Int} {j j1 : Nat} {q0 q1 q2 q3 q4 : Pos} (hx : ⟨x, false, P⟩ ∈ τ) (hP : ∀ n t, P n t → t ≠ 0 ∧ t < n) (hz : z.length ≠ 0)
    (hN : X.N[i]? = some x := by rfl) (hk : X.env.scope.names.lookup x = some .local := by rfl) (hd1 : (x == ("__debug__" : Str)) = false := by decide) :
    PRN X n0 τ [.Name x q0, .BinOp (.Constant (.str z) j1 q3) .Add (.Name x q1) q4, .Constant (.int v) j q2] (tCons (tVar i) (tCons (tOp rCatS (tC (.str z)) (tVar i)) (tCons (tC (.int v)) tNil))) := by
  refine ⟨fun pos pins s σ H Q I z0 h => ?_⟩
  obtain ⟨h0, m, hm, hf⟩ := z0
  obtain ⟨vx, e1, vx2, e2, a, b, ea, eb, hl, h⟩ := h
  rw [e1] at e2
  cases e2
  cases ea
  subst eb
  obtain ⟨ux, rx, mx⟩ := raw_at I hm hN hk e1
  obtain ⟨t, rfl⟩ := rx
  obtain ⟨ht0, htn⟩ := hP _ _ ((hf _ hx).2 rfl _ _ mx)
  have It := I.tok (s.toks + 1)
  show wpAny _ _ (spliced ((false, eval (.Name x q0) X.env) :: (false, eval (.BinOp (.Constant (.str z) j1 q3) .Add (.Name x q1) q4) X.env) :: (false, eval (.Constant (.int v) j q2) X.env) :: [])) _ _ s
  refine Calls.spliced_cons (raw_ld I hm hk mx (Calls.spliced_cons (wpAny_BinOp (Calls.Constant_str (raw_ld It hm hk mx (add_raw hl fun t' k ht' => Calls.spliced_cons (wpAny_Constant_int (Calls.spliced_nil ?_))) hd1)))) hd1)
  refine ⟨⟨Kx.kn fun _ _ e => e, [.str b, .str (z ++ b), .int v], H, Fz.refl, I.tok _, .cons ⟨t, rfl⟩ (.cons ⟨t', rfl⟩ (.cons ⟨_, rfl⟩ .nil)), h⟩, fun y' z' t1 u1 w e => ?_⟩
  simp only [List.cons.injEq, Value.str.injEq, and_true] at e
  obtain ⟨⟨_, e1⟩, ⟨_, e2⟩, _⟩ := e
  subst e1
  have e2' : t' = u1 := e2
  rcases ht' with q | ⟨q, _⟩ | ⟨_, q⟩
  · have q' : t' = s.toks + 1 := q
    exact ⟨ht0, by omega, by omega⟩
  · exact absurd q hz
  · have q' : t' = s.toks := q
    exact ⟨ht0, by omega, by omega⟩
def rRep1 : V → List V → Hp → VK → Prop := fun x xs H Q => ∃ a b c, x = .str a ∧ xs = [.str b, .str c, .int 1] ∧ a.length + c.length ≤ 16777216 ∧ Q (.str (Txt.replace1 a b c)) H
theorem ns_none {K : PySem.W.Frag} {h : Heap} {a : Addr} {m : Str → Option Value} {n : Str} (X : K.In h) (G : h.Ns a m) (e : PySem.W.nsIn K a n = some none) : m n = none := by
  obtain ⟨o, es, ep, ho, hd, _, hf⟩ := G
  unfold PySem.W.nsIn at e
  split at e
  · rename_i c d es' n' sl q
    have := X _ _ q
    rw [ho] at this
    cases this
    cases hd
    split at e
    · cases e
    · rename_i he
      rw [← hf]
      unfold nsFind findBy
      rw [← Array.find?_toList, he]
      rfl
  · cases e
theorem pen_rep (hnb : PySem.W.nsIn X.K cStatics sharingNotToldKey = some none) (mo : Mono τ) (ho : PEN X n0 τ o to) (ha : PRN X n0 τ (e :: es) t)
    (hbase : attributeBase o "replace" X.env (eval o X.env) = eval o X.env := by rfl)
    (hfew : ((backTo cpos (starEach (e :: es) X.env)).all (fun x => !x.1) && (backToKw cpos (keywordEach [] X.env)).all (fun x => x.1.isSome)
      && decide ((e :: es).length + ([] : List Keyword).length + (if ([] : List Keyword).isEmpty then 0 else 1) < 30)) = true := by rfl)
    (hline : (apos.endLine == cpos.line) = true := by rfl) (hs : starEach (e :: es) X.env = (false, eval e X.env) :: starEach es X.env := by rfl) (hplain : (backTo cpos (starEach es X.env)).any (·.1) = false := by rfl) :
    PEN X n0 τ (.Call (.Attribute o "replace" apos) (e :: es) [] cpos) (tBM X.K "str" rRep1 to t) := by
  refine ⟨fun pins s σ H Q I z h => ?_⟩
  refine wpAny_Call_method_late hbase hfew hline rfl (thk (ho.run pins s σ H _ I z h) fun v s1 t1 ⟨k1, x, H1, f1, I1, r1, ty, q1⟩ => ?_)
  obtain ⟨h1, h2⟩ := tyV_is I1 r1 ty
  refine ⟨"str", _, PySem.F.plainAttrs_str, PySem.F.slot_str_replace, PySem.F.type_str_replace, h1, h2, ?_⟩
  have hA := ha.run cpos pins s1 σ H1 _ I1 (z.keep mo k1 t1 f1) q1
  rw [hs] at hA ⊢
  refine Calls.callWith_builtin (by show (false || (backTo cpos (starEach es X.env)).any (·.1)) = false; rw [hplain] <;> rfl) (Calls.evalArgs_plain ?_)
  refine thn hA fun us s2 ⟨⟨k2, vs, H2, f2, I2, r2, q2⟩, ra⟩ => ?_
  obtain ⟨a, b, c, ex, exs, hb, q⟩ := q2
  subst ex exs
  obtain ⟨tx, rfl⟩ := r1
  cases r2 with
  | cons r3 r2 =>
    cases r2 with
    | cons r4 r2 =>
      cases r2 with
      | cons r5 r2 =>
        cases r2
        obtain ⟨t3, rfl⟩ := r3
        obtain ⟨t4, rfl⟩ := r4
        obtain ⟨t5, rfl⟩ := r5
        obtain ⟨g1, g2, g3⟩ := ra _ _ _ _ _ rfl
        have nb : NoneBooked s2.heap := by
          obtain ⟨mc, n1, _⟩ := I2.ok.mod.nolimit
          exact ⟨mc, n1.keeps I2.bk, ns_none I2.ok.mod.kin n1 hnb⟩
        exact PySem.SC.replace1 g1 g2 g3 hb (fun t' k => EK.from (k1.trans k2) (f1.trans f2) (ev_tok I2 (x := .str (Txt.replace1 a b c)) ⟨t', rfl⟩ q).k) nb

/-! ### statements -/
theorem pbn_of (h : PSs X sts ts) : PBN X n0 τ sts ts := ⟨fun pins s σ H D I _ q => h.run pins s σ H D I q⟩
theorem pbn_z (h : PSZ X n0 τ τ' st ts) (h2 : PBN X n0 τ' sts tu) : PBN X n0 τ (st :: sts) (tSeq ts tu) := by
  refine ⟨fun pins s σ H D I z q => ?_⟩
  refine wpAny_execs_cons (thn (h.run pins s σ H { D with nx := tu D } I z q) fun f s1 ⟨ef, σ1, H1, I1, z1, q1⟩ => ?_)
  subst ef
  exact h2.run pins s1 σ1 H1 D I1 z1 q1
theorem SK.sp {ν : List Str} {pins : List (Addr × Obj)} {s s' : Shared} {H : Hp} {D : Ends} {f : Flow} (h : SK X ν pins s H D f s') : SP X pins D f s' := by
  obtain ⟨_, h⟩ := h
  cases f with
  | next => obtain ⟨σ', H', _, r⟩ := h; exact ⟨σ', H', r⟩
  | brk => obtain ⟨σ', H', _, r⟩ := h; exact ⟨σ', H', r⟩
  | cont => obtain ⟨σ', H', _, r⟩ := h; exact ⟨σ', H', r⟩
  | ret u => obtain ⟨x, σ', H', _, r⟩ := h; exact ⟨x, σ', H', r⟩
theorem psn_of (h : PSK X (names τ) st ts) : PSN X n0 τ st ts := ⟨fun pins s σ H D I _ q => h.run pins s σ H D I q⟩
theorem pssn_of (h : PSsK X (names τ) sts ts) : PSsN X n0 τ sts ts := ⟨fun pins s σ H D I _ q => h.run pins s σ H D I q⟩
theorem pssn_one (h : PSN X n0 τ st ts) : PSsN X n0 τ [st] ts := by
  refine ⟨fun pins s σ H D I z q => ?_⟩
  refine wpAny_execs_cons (thn (h.run pins s σ H D I z q) fun f s1 q => ?_)
  cases f with
  | next => exact wpAny_execs_nil q
  | ret v => exact q
  | brk => exact q
  | cont => exact q
theorem pbn_n (mo : Mono τ) (h : PSN X n0 τ st ts) (h2 : PBN X n0 τ sts tu) : PBN X n0 τ (st :: sts) (tSeq ts tu) := by
  refine ⟨fun pins s σ H D I z q => ?_⟩
  refine wpAny_execs_cons (thk (h.run pins s σ H { D with nx := tu D } I z q) fun f s1 t1 ⟨k1, q1⟩ => ?_)
  cases f with
  | next =>
    obtain ⟨σ', H', f1, I', q⟩ := q1
    exact h2.run pins s1 σ' H' D I' (z.keep mo k1 t1 f1) q
  | ret v => exact SK.sp (ν := names τ) ⟨k1, q1⟩
  | brk => exact SK.sp (ν := names τ) ⟨k1, q1⟩
  | cont => exact SK.sp (ν := names τ) ⟨k1, q1⟩
/-- name = e, nothing said of it -/
theorem z_set {i : Nat} {pos' : Pos} (mo : Mono τ) (hN : X.N.Nodup) (he : PEN X n0 τ e te) (hν : x ∉ names τ) (hi : X.N[i]? = some x := by rfl) (hk : X.env.scope.names.lookup x = some .local := by rfl) (hs : swapsWith e (some (.Name x pos')) pos.line X.env = pure false := by rfl) :
    PSZ X n0 τ τ (.Assign [.Name x pos'] e pos) (tAsg te (gName i)) := by
  refine ⟨fun pins s σ H D I z h => ?_⟩
  refine wpAny_Assign_Name (thk (he.run pins s σ H _ I z h) fun v s1 t1 ⟨k1, y, H1, f1, I1, r1, q1⟩ => ?_) hs
  have z1 := z.keep mo k1 t1 f1
  obtain ⟨h0, m, hm, hf⟩ := z1
  refine store_k I1 hN hi hk r1 hm fun s' I' hn' ht' => ⟨rfl, _, H1, I', ⟨Nat.le_trans h0 ht', _, hn', fun f hff => (hf f hff).keep (mo f hff) ht' ?_ Fz.refl⟩, q1⟩
  have : f.x ≠ x := fun e => hν (e ▸ List.mem_map.mpr ⟨f, hff, rfl⟩)
  rw [if_neg this]
/-- what is stored is known to the token -/
theorem z_store {P : Nat → Nat → Prop} {L : Bool} {pins : List (Addr × Obj)} {s : Shared} {σ : L2.St} {H : Hp} {v : V} {u : Value} {i : Nat} {N : L2.St → Hp → Prop} (mo : Mono τ) (mP : ∀ n n' t, n ≤ n' → P n t → P n' t) (hN : X.N.Nodup) (hi : X.N[i]? = some x) (hk : X.env.scope.names.lookup x = some .local) (hν : x ∉ names τ)
    (I : Inv X pins σ H s) (z : Nz X n0 τ s H) (r : RelV v u) (g1 : L = true → GoodL (P s.toks) H u) (g2 : L = false → GoodT (P s.toks) (some u)) (q : N (σ.set i (some v)) H) {A : Around} {E : Value → Shared → Prop} {M : Model} :
    wpAny M A (storeName X.env x u) (fun _ s' => ∃ σ' H', Inv X pins σ' H' s' ∧ Nz X n0 (⟨x, L, P⟩ :: τ) s' H' ∧ N σ' H') E s := by
  obtain ⟨h0, m, hm, hf⟩ := z
  refine store_k I hN hi hk r hm fun s' I' hn' ht' => ⟨_, H, I', ⟨Nat.le_trans h0 ht', _, hn', fun f hff => ?_⟩, q⟩
  rcases List.mem_cons.mp hff with e | hff
  · subst e
    refine ⟨fun e => ⟨u, by simp, (g1 e).mono (fun t => mP _ _ t ht') Fz.refl⟩, fun e y t h => ?_⟩
    simp only [if_true] at h
    exact mP _ _ t ht' (g2 e y t h)
  · refine (hf f hff).keep (mo f hff) ht' ?_ Fz.refl
    have : f.x ≠ x := fun e => hν (e ▸ List.mem_map.mpr ⟨f, hff, rfl⟩)
    rw [if_neg this]
def rSplitZ : V → List V → Hp → VK → Prop := fun x xs H Q => ∃ a b, x = .str a ∧ xs = [.str b] ∧ (b.length == 0) = false ∧ a.length + 2 ≤ sizeLine ∧ ∀ p o, H p = none → Q (.ref p) (upd H p (.frz o (.lst ((Txt.split a b).map V.str))))
theorem strsFrom_tok : ∀ (l : List Str) (n : Nat) (z : Str) (t : Tok), Value.str z t ∈ strsFrom n l → @LE.le Nat _ n t ∧ @LT.lt Nat _ t (n + l.length)
  | [], n, z, t, h => by simp [strsFrom] at h
  | x :: l, n, z, t, h => by
    unfold strsFrom at h
    rcases List.mem_cons.mp h with e | h
    · cases e
      simp
    · have := strsFrom_tok l (n + 1) z t h
      simp
      omega
end
end DD

set_option Elab.async false
set_option linter.all false
set_option maxRecDepth 100000
set_option maxHeartbeats 4000000
/-! DD12: lists and texts known to the token: split, items, displays, loops; a def that asks for good tokens. -/
namespace DD
open PySem PySem.Spec PyProof.Rows L2 Evl

section
variable {X : Cx} {n0 : Nat} {τ τ' : List Fact} {a b c e o : Expr} {es : List Expr} {ta tb tc te to : TE} {t : TA} {pos p p2 p3 apos cpos : Pos} {x y : Str} {st : Stmt} {sts : List Stmt} {ts tu : TS} {P P' : Nat → Nat → Prop}
theorem split_raw {prog : Program} {w : World} {A : Around} {E : Value → Shared → Prop} {s : Shared} {a b : Str} {t u : Tok} {Q : Value → Shared → Prop} (hb : (b.length == 0) = false) (hz : a.length + 2 ≤ sizeLine)
    (hq : ∀ (its : List Value) (k : Nat), Vals ((Txt.split a b).map V.str) its → (∀ z t', Value.str z t' ∈ its → t' = t ∨ (@LE.le Nat _ s.toks t' ∧ @LT.lt Nat _ t' k)) → s.toks ≤ k →
      Q (.ref s.heap.objs.size) { s with toks := k, heap := s.heap.push { cls := .type "list", data := .seq its.toArray } }) : wpAny (model prog w) A (call (.builtin "str.split") [.str a t, .str b u]) Q E s := by
  have hn : (Builtin.Str.partsBetween a (Builtin.Str.occurrences a b 0 a.length (a.length + 1)) b.length).length ≤ sizeLine := by
    have e1 := StrLaws.occ_length_le a b 0 a.length (a.length + 1)
    rw [length_partsBetween]; omega
  have one : Txt.split a b = [a] → Q (.ref s.heap.objs.size) { s with toks := s.toks, heap := s.heap.push { cls := .type "list", data := .seq [Value.str a t].toArray } } := fun e => by
    refine hq [.str a t] s.toks ?_ (fun z t' h => ?_) (Nat.le_refl _)
    · rw [e]
      exact .cons ⟨t, rfl⟩ .nil
    · simp only [List.mem_singleton, Value.str.injEq] at h
      exact .inl h.2
  cases h1 : (decide (a.length < b.length) || decide (Builtin.Str.strKind a < Builtin.Str.strKind b))
  · cases hf : (Builtin.Str.occurrences a b 0 a.length (a.length + 1)).isEmpty
    · refine call_meets F.slot_str_split (typeIs_str _ _ _) F.entry_str_split (F.args_str_split_2 _ _) (meets_str_split_sep a b t u h1 hb hf (by omega) hn) ?_
      have ev : Txt.split a b = Builtin.Str.partsBetween a (Builtin.Str.occurrences a b 0 a.length (a.length + 1)) b.length := (if_neg (ne_true_of_eq_false h1)).trans (if_neg (ne_true_of_eq_false hf))
      refine hq _ _ ?_ (fun z t' h => .inr (strsFrom_tok _ _ z t' h)) (Nat.le_add_right _ _)
      rw [ev, strsFrom_eq]
      have q := vals_strs (PySem.numbered s.toks (Builtin.Str.partsBetween a (Builtin.Str.occurrences a b 0 a.length (a.length + 1)) b.length))
      rw [numbered_texts] at q
      exact q
    · refine call_meets F.slot_str_split (typeIs_str _ _ _) F.entry_str_split (F.args_str_split_2 _ _) (meets_str_split_not_found a b t u h1 hb hf) ?_
      exact one ((if_neg (ne_true_of_eq_false h1)).trans (if_pos hf))
  · refine call_meets F.slot_str_split (typeIs_str _ _ _) F.entry_str_split (F.args_str_split_2 _ _) (meets_str_split_cannot_occur a b t u h1) ?_
    exact one (if_pos h1)
/-- x = y.split(..), y known to the token -/
theorem z_split {i k : Nat} {z : Str} {j : Nat} {q0 q1 pos' : Pos} (mo : Mono τ) (mP : ∀ n n' t, n ≤ n' → P' n t → P' n' t) (hy : ⟨y, false, P⟩ ∈ τ) (hP : ∀ n t, n0 ≤ n → P n t → P' n t) (hF : ∀ n n' t, n0 ≤ n → n ≤ t → t < n' → P' n' t) (hN : X.N.Nodup) (hν : x ∉ names τ)
    (hi : X.N[i]? = some x := by rfl) (hk : X.env.scope.names.lookup x = some .local := by rfl) (hi2 : X.N[k]? = some y := by rfl) (hk2 : X.env.scope.names.lookup y = some .local := by rfl) (hd2 : (y == ("__debug__" : Str)) = false := by decide)
    (hs : swapsWith (.Call (.Attribute (.Name y q0) "split" apos) [.Constant (.str z) j q1] [] cpos) (some (.Name x pos')) pos.line X.env = pure false := by rfl)
    (hbase : attributeBase (.Name y q0) "split" X.env (eval (.Name y q0) X.env) = eval (.Name y q0) X.env := by rfl)
    (hfew : ((backTo cpos (starEach [.Constant (.str z) j q1] X.env)).all (fun x => !x.1) && (backToKw cpos (keywordEach [] X.env)).all (fun x => x.1.isSome)
      && decide (([Expr.Constant (.str z) j q1] : List Expr).length + ([] : List Keyword).length + (if ([] : List Keyword).isEmpty then 0 else 1) < 30)) = true := by rfl)
    (hline : (apos.endLine == cpos.line) = true := by rfl) :
    PSZ X n0 τ (⟨x, true, P'⟩ :: τ) (.Assign [.Name x pos'] (.Call (.Attribute (.Name y q0) "split" apos) [.Constant (.str z) j q1] [] cpos) pos) (tAsg (tBM X.K "str" rSplitZ (tVar k) (tCons (tC (.str z)) tNil)) (gName i)) := by
  refine ⟨fun pins s σ H D I nz h => ?_⟩
  obtain ⟨v, e1, ty, a, b, rfl, eb, hb, hz, q⟩ := h
  simp only [List.cons.injEq, V.str.injEq, and_true] at eb
  subst eb
  obtain ⟨h0, m, hm, hf⟩ := id nz
  obtain ⟨u, ru, mu⟩ := raw_at I hm hi2 hk2 e1
  obtain ⟨t, rfl⟩ := ru
  have pt : P s.toks t := (hf _ hy).2 rfl _ _ mu
  refine wpAny_Assign_Name (wpAny_Call_method_late hbase hfew hline rfl (raw_ld I hm hk2 mu ?_ hd2)) hs
  refine ⟨"str", _, PySem.F.plainAttrs_str, PySem.F.slot_str_split, PySem.F.type_str_split, typeIs_str _ _ _, (fun _ e => nomatch e), Calls.callWith_builtin rfl (Calls.evalArgs_plain ?_)⟩
  show wpAny _ _ (spliced ((false, eval (.Constant (.str z) j q1) X.env) :: [])) _ _ s
  refine Calls.spliced_cons (Calls.Constant_str (Calls.spliced_nil ?_))
  refine split_raw hb hz fun its n rv gi hn => ?_
  have hp : H s.heap.objs.size = none := I.hok.fresh (Nat.le_refl _)
  have hl : its.length ≤ sizeLine := by
    rw [← rv.length, List.length_map]
    exact Nat.le_trans (PyProof.Rows.split_le a z) hz
  have hn' : s.toks + 1 ≤ n := hn
  have I2 : Inv X pins σ (upd H s.heap.objs.size (.frz { cls := .type "list", data := .seq its.toArray } (.lst ((Txt.split a z).map V.str)))) { s with toks := n, heap := s.heap.push { cls := .type "list", data := .seq its.toArray } } :=
    I.laid (fun b u e => Heap.get?_push_of_some _ e) (Nat.le_refl _) ⟨Heap.get?_push_size _ rfl, by rw [rv.length]; exact hl, its, 0, rv, Heap.get?_push_size _ rfl⟩
  refine thn (z_store (N := D.nx) (L := true) mo mP hN hi hk hν I2 (nz.keep mo (Kx.kn fun b u e => Heap.get?_push_of_some _ e) (show s.toks ≤ n by omega) (Fz.new hp)) (v := .ref s.heap.objs.size) rfl (fun _ => ⟨_, _, _, 0, _, rfl, upd_same, rfl, fun y' t' h' => ?_⟩) (fun e => nomatch e) (q _ _ hp)) fun _ s' w => ⟨rfl, w⟩
  rcases gi y' t' (by simpa using h') with w | ⟨w1, w2⟩
  · subst w
    exact mP _ _ _ (show s.toks ≤ n by omega) (hP _ _ h0 pt)
  · exact hF s.toks n t' h0 (Nat.le_trans (Nat.le_succ _) w1) w2
/-- an item of a list whose object is known -/
theorem ixz {pins : List (Addr × Obj)} {σ : L2.St} {H : Hp} {s : Shared} {p : Addr} {ob : Obj} {ys : List V} {its : Array Value} {n : Nat} {i : Int} {u : Value} {v : V} {value slice : Expr} {Q E : Value → Shared → Prop} (I : Inv X pins σ H s) (hp : H p = some (.frz ob (.lst ys))) (hd : ob.data = .seq its n)
    (ri : RelV (.int i) u) (he : atI ys i = some v) (hs : subscripted slice false (.ref p) u = operate [.ref p, u] (getItem (.ref p) u)) (q : ∀ w, RelV v w → w ∈ its.toList → Q w s) :
    wpAny (model X.prog X.w) X.A (subscriptTail value slice (.ref p) u) Q E s := by
  obtain ⟨t, rfl⟩ := ri
  obtain ⟨its', r, pl, hz⟩ := I.list (show SqL X.K H p ys from .inl (.inr ⟨ob, hp⟩))
  have eits : its.toList = its' := by
    obtain ⟨e1, _⟩ := I.hok p _ hp
    obtain ⟨o, n2, e2, _, _, e3⟩ := pl
    rw [e1] at e2
    cases e2
    rw [hd] at e3
    cases e3
    simp
  obtain ⟨j, h1, h2, h3, h4, h5⟩ := atI_get he
  obtain ⟨w, ew, rw'⟩ := r.get h2
  have hl := r.length
  have hn := line63
  have fin : Q w s := q w rw' (by rw [eits]; exact List.mem_of_getElem? ew)
  by_cases h0 : 0 ≤ i
  · have hj : i.toNat = j := by
      rw [seqIndex_of h0 h5] at h1
      exact Option.some.inj h1
    exact item_listR pl.isList h0 (by omega) (by rw [hj]; simpa using ew) fin hs
  · have hj : (i + (its'.toArray.size : Int)).toNat = j := by
      rw [seqIndex_neg (by omega) h4] at h1
      rw [List.size_toArray, ← hl]
      exact Option.some.inj h1
    exact subscriptTail_builtinR (x := w) pl.isList.typeIs slot_list_getitem.lookup
      (wpAny_getItem_list_neg (Q := fun r s' => r = w ∧ Q r s') pl.isList (by omega) (by rw [List.size_toArray] <;> omega) (by omega) (by rw [hj]; simpa using ew) ⟨rfl, fin⟩) hs
/-- x = y[e], y a list known to the token -/
theorem z_ix {i k : Nat} {q0 pos' : Pos} (mo : Mono τ) (mP : ∀ n n' t, n ≤ n' → P' n t → P' n' t) (hy : ⟨y, true, P⟩ ∈ τ) (hP : ∀ n t, n0 ≤ n → P n t → P' n t) (hN : X.N.Nodup) (hν : x ∉ names τ) (he : PEK X (names τ) e te) (hsx : PlainIx e)
    (hi : X.N[i]? = some x := by rfl) (hk : X.env.scope.names.lookup x = some .local := by rfl) (hi2 : X.N[k]? = some y := by rfl) (hk2 : X.env.scope.names.lookup y = some .local := by rfl) (hd2 : (y == ("__debug__" : Str)) = false := by decide)
    (hs : swapsWith (.Subscript (.Name y q0) e cpos) (some (.Name x pos')) pos.line X.env = pure false := by rfl) :
    PSZ X n0 τ (⟨x, false, P'⟩ :: τ) (.Assign [.Name x pos'] (.Subscript (.Name y q0) e cpos) pos) (tAsg (tOp (rIxL X.K) (tVar k) te) (gName i)) := by
  refine ⟨fun pins s σ H D I nz h => ?_⟩
  obtain ⟨v, e1, h⟩ := h
  obtain ⟨h0, m, hm, hf⟩ := id nz
  obtain ⟨u, ru, mu⟩ := raw_at I hm hi2 hk2 e1
  obtain ⟨u', mu', p, ob, its, n, ys, eu, hp, hd, gi⟩ := (hf _ hy).1 rfl
  rw [mu] at mu'
  cases mu'
  subst eu
  have ev : v = .ref p := by
    cases v with
    | ref a => cases (show Value.ref p = Value.ref a from ru); rfl
    | non => cases (show Value.ref p = Value.none from ru)
    | bl b => cases (show Value.ref p = Value.bool b from ru)
    | int b => obtain ⟨_, z⟩ := (show ∃ t, Value.ref p = Value.int b t from ru); cases z
    | str b => obtain ⟨_, z⟩ := (show ∃ t, Value.ref p = Value.str b t from ru); cases z
    | byt b => obtain ⟨_, z⟩ := (show ∃ t, Value.ref p = Value.bytes b t from ru); cases z
    | flt b => obtain ⟨_, z⟩ := (show ∃ t, Value.ref p = Value.float b t from ru); cases z
    | ty b => cases (show Value.ref p = Value.type b from ru)
  subst ev
  refine wpAny_Assign_Name (Subscript_ (raw_ld I hm hk2 mu ?_ hd2)) hs
  refine thk (he.run pins s σ H _ I h) fun ui s2 t2 ⟨k2, vi, H2, f2, I2, ri, q2⟩ => ?_
  obtain ⟨p', xs, j, z, ep, ej, hq, hz, q⟩ := q2
  cases ep
  subst ej
  have hp2 := f2 _ _ _ hp
  have exs : xs = ys := I2.list_inj hq (show SqL X.K H2 p ys from .inl (.inr ⟨ob, hp2⟩))
  subst exs
  refine ixz I2 hp2 hd ri hz (hsx _ _) fun w rw hw => ?_
  refine thn (z_store (N := D.nx) (L := false) mo mP hN hi hk hν I2 (nz.keep mo k2 t2 f2) rw (fun e => nomatch e) (fun _ y' t' h' => ?_) q) fun _ s' w => ⟨rfl, w⟩
  cases h'
  exact mP _ _ _ t2 (hP _ _ h0 (gi _ _ hw))

/-! ### displays known to the token -/
structure PAZ (X : Cx) (n0 : Nat) (τ : List Fact) (es : List Expr) (P : Nat → Nat → Prop) (t : TA) : Prop where
  run : ∀ (pos : Pos) (pins : List (Addr × Obj)) (s : Shared) (σ : L2.St) (H : Hp) (Q : List V → Hp → Prop), Inv X pins σ H s → Nz X n0 τ s H → t σ H Q →
    wpAny (model X.prog X.w) X.A (spliced (backTo pos (starEach es X.env))) (fun us s' => s.toks ≤ s'.toks ∧ AK X (names τ) pins σ s H Q us s' ∧ GoodI (P s'.toks) us) X.xe s
theorem paz_nil : PAZ X n0 τ [] P tNil := ⟨fun _ _ _ _ H Q I _ h => Calls.spliced_nil ⟨Nat.le_refl _, ⟨Kn.refl, [], H, Fz.refl, I, .nil, h⟩, fun _ _ h => absurd h (by simp)⟩⟩
theorem paz_str {z : Str} {j : Nat} {q0 : Pos} (mo : Mono τ) (mP : ∀ n n' t, n ≤ n' → P n t → P n' t) (hF : ∀ n t, n0 ≤ t → t < n → P n t) (hr : PAZ X n0 τ es P t) (hs : starEach (.Constant (.str z) j q0 :: es) X.env = (false, eval (.Constant (.str z) j q0) X.env) :: starEach es X.env := by rfl) :
    PAZ X n0 τ (.Constant (.str z) j q0 :: es) P (tCons (tC (.str z)) t) := by
  refine ⟨fun pos pins s σ H Q I nz h => ?_⟩
  rw [hs]
  show wpAny _ _ (spliced ((false, eval (.Constant (.str z) j q0) X.env) :: backTo pos (starEach es X.env))) _ _ s
  refine Calls.spliced_cons (Calls.Constant_str ?_)
  have k1 : Kn X (names τ) s { s with toks := s.toks + 1 } := Kx.kn fun _ _ e => e
  refine thn (hr.run pos pins { s with toks := s.toks + 1 } σ H _ (I.tok _) (nz.keep mo k1 (Nat.le_succ _) Fz.refl) h) fun us s2 ⟨t2, ⟨k2, xs, H2, f2, I2, r2, q2⟩, g2⟩ => ?_
  have t2' : s.toks + 1 ≤ s2.toks := t2
  refine ⟨by omega, ⟨k1.trans k2, .str z :: xs, H2, f2, I2, .cons ⟨_, rfl⟩ r2, q2⟩, fun y' t' h' => ?_⟩
  rcases List.mem_cons.mp h' with e | h'
  · cases e
    exact hF _ _ nz.1 (by omega)
  · exact g2 _ _ h'
theorem paz_name {i : Nat} {q0 : Pos} (mo : Mono τ) (mP : ∀ n n' t, n ≤ n' → P n t → P n' t) (hx : ⟨x, false, P'⟩ ∈ τ) (hP : ∀ n t, n0 ≤ n → P' n t → P n t) (hr : PAZ X n0 τ es P t) (hN : X.N[i]? = some x := by rfl) (hk : X.env.scope.names.lookup x = some .local := by rfl) (hd : (x == ("__debug__" : Str)) = false := by decide)
    (hs : starEach (.Name x q0 :: es) X.env = (false, eval (.Name x q0) X.env) :: starEach es X.env := by rfl) : PAZ X n0 τ (.Name x q0 :: es) P (tCons (tVar i) t) := by
  refine ⟨fun pos pins s σ H Q I nz h => ?_⟩
  rw [hs]
  show wpAny _ _ (spliced ((false, eval (.Name x q0) X.env) :: backTo pos (starEach es X.env))) _ _ s
  obtain ⟨v, e1, h⟩ := h
  obtain ⟨h0, m, hm, hf⟩ := id nz
  obtain ⟨u, ru, mu⟩ := raw_at I hm hN hk e1
  refine Calls.spliced_cons (raw_ld I hm hk mu ?_ hd)
  refine thn (hr.run pos pins s σ H _ I nz h) fun us s2 ⟨t2, ⟨k2, xs, H2, f2, I2, r2, q2⟩, g2⟩ => ⟨t2, ⟨k2, v :: xs, H2, f2, I2, .cons ru r2, q2⟩, fun y' t' h' => ?_⟩
  rcases List.mem_cons.mp h' with e | h'
  · subst e
    exact mP _ _ _ t2 (hP _ _ h0 ((hf _ hx).2 rfl _ _ mu))
  · exact g2 _ _ h'
/-- a new list, its object known -/
def tLstZ (t : TA) : TE := fun σ H Q => t σ H fun xs H1 => xs.length ≤ sizeLine ∧ ∀ p o, H1 p = none → Q (.ref p) (upd H1 p (.frz o (.lst xs)))
theorem lstZ {pins : List (Addr × Obj)} {s : Shared} {σ : L2.St} {H : Hp} {Q : VK} {R : Value → Shared → Prop} (ha : PAZ X n0 τ es P t) (I : Inv X pins σ H s) (nz : Nz X n0 τ s H) (h : tLstZ t σ H Q)
    (fin : ∀ (p : Addr) (s' : Shared) (ob : Obj) (its : Array Value) (n : Nat) (ys : List V) (H' : Hp), s.toks ≤ s'.toks → Kn X (names τ) s s' → Fz H H' → Inv X pins σ H' s' → H' p = some (.frz ob (.lst ys)) → ob.data = .seq its n → GoodI (P s'.toks) its.toList → Q (.ref p) H' → R (.ref p) s') :
    wpAny (model X.prog X.w) X.A (eval (.List es pos) X.env) R X.xe s := by
  refine wpAny_List_spliced (thn (ha.run pos pins s σ H _ I nz h) fun us s1 ⟨t1, ⟨k1, xs, H1, f1, I1, r, z, q⟩, g⟩ => ⟨by rw [← r.length]; exact z, ?_⟩)
  have hp : H1 s1.heap.objs.size = none := I1.hok.fresh (Nat.le_refl _)
  have I2 : Inv X pins σ (upd H1 s1.heap.objs.size (.frz { cls := .type "list", data := .seq us.toArray } (.lst xs))) { s1 with heap := s1.heap.push { cls := .type "list", data := .seq us.toArray } } :=
    I1.laid (t' := s1.toks) (fun b u e => Heap.get?_push_of_some _ e) (Nat.le_refl _) ⟨Heap.get?_push_size _ rfl, z, us, 0, r, Heap.get?_push_size _ rfl⟩
  exact fin _ _ _ us.toArray 0 xs _ t1 (k1.trans (Kx.kn fun b u e => Heap.get?_push_of_some _ e)) (f1.trans (Fz.new hp)) I2 upd_same rfl (by simpa using g) (q _ _ hp)
theorem z_lst {i : Nat} {pos' : Pos} (mo : Mono τ) (mP : ∀ n n' t, n ≤ n' → P n t → P n' t) (ha : PAZ X n0 τ es P t) (hN : X.N.Nodup) (hν : x ∉ names τ) (hi : X.N[i]? = some x := by rfl) (hk : X.env.scope.names.lookup x = some .local := by rfl)
    (hs : swapsWith (.List es cpos) (some (.Name x pos')) pos.line X.env = pure false := by rfl) :
    PSZ X n0 τ (⟨x, true, P⟩ :: τ) (.Assign [.Name x pos'] (.List es cpos) pos) (tAsg (tLstZ t) (gName i)) := by
  refine ⟨fun pins s σ H D I nz h => ?_⟩
  refine wpAny_Assign_Name (lstZ ha I nz h fun p s' ob its n ys H' t' k' f' I' hp hd g q => ?_) hs
  exact thn (z_store (N := D.nx) (L := true) mo mP hN hi hk hν I' (nz.keep mo k' t' f') (v := .ref p) rfl (fun _ => ⟨p, ob, its, n, ys, rfl, hp, hd, g⟩) (fun e => nomatch e) q) fun _ s' w => ⟨rfl, w⟩

/-! ### loops -/
structure PIN (X : Cx) (n0 : Nat) (τ : List Fact) (tg iter : Expr) (wi : TI) : Prop where
  run : ∀ (pins : List (Addr × Obj)) (s : Shared) (σ : L2.St) (H : Hp) (R : It → Hp → Prop), Inv X pins σ H s → Nz X n0 τ s H → wi σ H R →
    wpAny (model X.prog X.w) X.A (eval iter X.env) (fun v s1 => wpAny (model X.prog X.w) X.A (pyIter v) (PIEK X (names τ) pins σ s H tg R) X.xe s1) X.xe s
theorem pin_of {tg iter : Expr} {wi : TI} (h : PIK X (names τ) tg iter wi) : PIN X n0 τ tg iter wi := ⟨fun pins s σ H R I _ q => h.run pins s σ H R I q⟩
theorem pin_list {tg l : Expr} {tl : TE} (hl : PEN X n0 τ l tl) : PIN X n0 τ tg l (iList X.K tl) := by
  refine ⟨fun pins s σ H R I nz h => ?_⟩
  refine thn (hl.run pins s σ H _ I nz h) fun v s1 ⟨k1, x, H1, f1, I1, r1, q1⟩ => ?_
  obtain ⟨a, e, ⟨xs, hq⟩, q⟩ := q1
  subst e
  cases r1
  obtain ⟨its, rv, p, hz⟩ := I1.list hq
  refine wpAny_pyIter_list p.isList ?_
  refine ⟨k1.trans (Kx.kn fun b o e => Heap.get?_push_of_some _ e), s1.heap.objs.size, [s1.heap.objs.size], _, _, H1, rfl, f1, I1.kept (t' := s1.toks) fun b o e => Heap.get?_push_of_some _ e, turnk_list a _, ⟨_, Heap.get?_push_size _ rfl, rfl, rfl⟩, fun b hb => ?_, q⟩
  have e : b = s1.heap.objs.size := by simpa using hb
  subst e
  exact I1.fpOk (Nat.le_refl _) (I1.hok.fresh (Nat.le_refl _))
theorem kn_fp {fp : List Addr} {ν : List Str} {s s' : Shared} {pins : List (Addr × Obj)} {H : Hp} (f : ∀ b ∈ fp, FpOk X pins H b) (k : ∀ b o, b ∉ fp → s.heap.get? b = some o → s'.heap.get? b = some o) : Kn X ν s s' := fun m hm => by
  obtain ⟨o', es', ep', ho', r'⟩ := hm
  exact ⟨m, ⟨_, es', ep', k _ _ (fun z => (f _ z).2.1 rfl) ho', r'⟩, fun _ _ => rfl⟩
theorem psn_for {tg iter : Expr} {body : List Stmt} {wi : TI} {g : TG} {tb : TS} {pos : Pos} (mo : Mono τ) (hp : PassesOwn (model X.prog X.w) X.A X.env X.xe) (hc : X.calm = true) (hi : PIN X n0 τ tg iter wi) (hg : PGK X (names τ) tg g) (hb : PSsN X n0 τ body tb)
    (hs : ∀ x, foldedSetIterable iter X.env x = pure x := by intro _; rfl) : PSN X n0 τ (.For tg iter body [] pos) (tFor wi g tb) := by
  refine ⟨fun pins s σ H D I nz h => ?_⟩
  refine wpAny_For (thk (hi.run pins s σ H _ I nz h) fun v s1 t1 h1 => thk h1 fun itv s2 t2 h2 => ?_) hs
  obtain ⟨k2, it, fp, tn, J, H2, e, z2, I2, T, st2, f2, W, ⟨m0, w0⟩, turn⟩ := h2
  subst e
  have stat : ∀ {H' : Hp}, (∀ b ∈ fp, H' b = none) → ∀ b ∈ fp, FpOk X pins H' b := fun hn b hb => ⟨hn b hb, (f2 b hb).2⟩
  refine codeAny_forLoop_any (fun n s' => s.toks ≤ s'.toks ∧ Kn X (names τ) s s' ∧ ∃ i σ' H', Fz H H' ∧ Inv X pins σ' H' s' ∧ tn i s'.heap ∧ (∀ b ∈ fp, H' b = none) ∧ W i n σ' H') ?_ m0 ⟨Nat.le_trans t1 t2, k2, 0, σ, H2, z2, I2, st2, fun b hb => (f2 b hb).1, w0⟩
  rintro n s3 ⟨t3, k3, i, σ3, H3, z3, I3, st3, fr3, w3⟩
  rcases turn i n σ3 H3 w3 with ⟨stop, qn⟩ | ⟨go, N, hN, step⟩
  · refine wpAny_passesOwn hp (thn (T.done X rfl rfl rfl hc i pins s3 σ3 H3 X.xe I3 (stat fr3) st3 stop) fun r s4 ⟨hr, k4, I4⟩ => ?_)
    subst hr
    exact wpAny_execs_nil ⟨k3.trans (kn_fp f2 k4), σ3, H3, z3, I4, qn⟩
  · refine wpAny_passesOwn hp (thk (T.item X rfl rfl rfl hc i pins s3 σ3 H3 X.xe I3 (stat fr3) st3 go) fun r s4 t4 ⟨u, hr, h4⟩ => ?_)
    subst hr
    refine wpAny_passesOwn hp (thk h4 fun _ s5 t5 ⟨k5, x, I5, r5, y5, st5⟩ => ?_)
    have I5' := I5.pinned (stat fr3) (T.obj _ _ st5)
    refine wpAny_passesOwn hp (thk (hg.run _ s5 σ3 H3 x u _ I5' r5 (step x H3 y5)) fun _ s6 t6 ⟨k6, σ6, H6, z6, I6, q6⟩ => ?_)
    have t06 : s.toks ≤ s6.toks := by omega
    refine wpAny_passesOwn hp (thk (hb.run _ s6 σ6 H6 _ I6 (nz.keep mo ((k3.trans (kn_fp f2 k5)).trans k6) t06 (z3.trans z6)) q6) fun f s7 t7 q7 => ?_)
    obtain ⟨k7, q7⟩ := q7
    have kk : Kn X (names τ) s s7 := ((k3.trans (kn_fp f2 k5)).trans k6).trans k7
    have again : ∀ {σ7 : L2.St} {H7 : Hp}, Fz H6 H7 → Inv X (pins ++ pinsAt fp s5.heap) σ7 H7 s7 → N σ7 H7 → ∃ m, m < n ∧ s.toks ≤ s7.toks ∧ Kn X (names τ) s s7 ∧ ∃ i σ' H', Fz H H' ∧ Inv X pins σ' H' s7 ∧ tn i s7.heap ∧ (∀ b ∈ fp, H' b = none) ∧ W i m σ' H' := fun {σ7 H7} z7 I7 n7 => by
      obtain ⟨m', hm, w7⟩ := hN σ7 H7 n7
      refine ⟨m', hm, by omega, kk, i + 1, σ7, H7, (z3.trans z6).trans z7, I7.unpinned, T.keep _ _ _ st5 fun b hb o e => (I7.pin (b, o) (List.mem_append_right _ (List.mem_append_right _ (mem_pinsAt hb e)))).1, fun b hb => ?_, w7⟩
      obtain ⟨o, e, d⟩ := T.obj _ _ st5 b hb
      exact (I7.pin (b, o) (List.mem_append_right _ (List.mem_append_right _ (mem_pinsAt hb e)))).2.1
    cases f with
    | next => obtain ⟨σ7, H7, z7, I7, n7⟩ := q7; exact again z7 I7 n7
    | cont => obtain ⟨σ7, H7, z7, I7, n7⟩ := q7; exact again z7 I7 n7
    | brk => obtain ⟨σ7, H7, z7, I7, q7⟩ := q7; exact ⟨kk, σ7, H7, (z3.trans z6).trans z7, I7.unpinned, q7⟩
    | ret v => obtain ⟨x7, σ7, H7, z7, I7, r7, q7⟩ := q7; exact ⟨kk, x7, σ7, H7, (z3.trans z6).trans z7, I7.unpinned, r7, q7⟩
/-- for x in [..], the list known to the token -/
theorem psn_forZ {i : Nat} {body : List Stmt} {tb : TS} {pos q0 : Pos} (mo : Mono τ) (mP : ∀ n n' t, n ≤ n' → P n t → P n' t) (hp : PassesOwn (model X.prog X.w) X.A X.env X.xe) (hc : X.calm = true) (ha : PAZ X n0 τ es P t) (hN : X.N.Nodup) (hν : x ∉ names τ) (hb : PSsN X n0 (⟨x, false, P⟩ :: τ) body tb)
    (hix : X.N[i]? = some x := by rfl) (hk : X.env.scope.names.lookup x = some .local := by rfl) (hs : ∀ x, foldedSetIterable (.List es cpos) X.env x = pure x := by intro _; rfl) : PSN X n0 τ (.For (.Name x q0) (.List es cpos) body [] pos) (tFor (iList X.K (tLstZ t)) (gName i) tb) := by
  refine ⟨fun pins s σ H D I nz h => ?_⟩
  unfold tFor iList at h
  refine wpAny_For (lstZ ha I nz h fun a s1 ob its nn ys H1 t1 k1 f1 I1 hp1 hd g1 q1 => ?_) hs
  obtain ⟨a', e, ⟨xs, hq⟩, W, ⟨m0, w0⟩, turn⟩ := q1
  cases e
  obtain ⟨its1, rv1, p1, _⟩ := I1.list hq
  refine wpAny_pyIter_list p1.isList ?_
  generalize hs2 : ({ s1 with heap := s1.heap.push _ } : Shared) = s2
  generalize hit : s1.heap.objs.size = it
  have I2 : Inv X pins σ H1 s2 := by rw [← hs2]; exact I1.kept (t' := s1.toks) fun b o e => Heap.get?_push_of_some _ e
  have k2 : Kn X (names τ) s1 s2 := by rw [← hs2]; exact Kx.kn fun b o e => Heap.get?_push_of_some _ e
  have t2 : s1.toks ≤ s2.toks := by rw [← hs2]; exact Nat.le_refl _
  have st2 : s2.heap.IsListIter it a 0 := by rw [← hs2, ← hit]; exact ⟨_, Heap.get?_push_size _ rfl, rfl, rfl⟩
  have f2 : ∀ b ∈ [it], FpOk X pins H1 b := fun b hb => by
    rw [List.mem_singleton] at hb
    subst hb
    rw [← hit]
    exact I1.fpOk (Nat.le_refl _) (I1.hok.fresh (Nat.le_refl _))
  have stat : ∀ {H' : Hp}, (∀ b ∈ [it], H' b = none) → ∀ b ∈ [it], FpOk X pins H' b := fun hn b hb => ⟨hn b hb, (f2 b hb).2⟩
  have nz2 : Nz X n0 τ s2 H1 := nz.keep mo (k1.trans k2) (Nat.le_trans t1 t2) f1
  have gd2 : GoodI (P s2.toks) its.toList := fun y' t' h' => mP _ _ _ t2 (g1 y' t' h')
  refine codeAny_forLoop_any (fun n s' => s2.toks ≤ s'.toks ∧ Kn X (names τ) s2 s' ∧ ∃ i σ' H', Fz H1 H' ∧ Inv X pins σ' H' s' ∧ s'.heap.IsListIter it a i ∧ (∀ b ∈ [it], H' b = none) ∧ W i n σ' H') ?_ m0 ⟨Nat.le_refl _, Kn.refl, 0, σ, H1, Fz.refl, I2, st2, fun b hb => (f2 b hb).1, w0⟩
  have T : TurnK X.prog X.w X.K (.Name x q0) (Itl X.K a) [it] it (fun i h => h.IsListIter it a i) := turnk_list a it
  rintro n s3 ⟨t3, k3, i3, σ3, H3, z3, I3, st3, fr3, w3⟩
  have hp3 := z3 _ _ _ hp1
  rcases turn i3 n σ3 H3 w3 with ⟨stop, qn⟩ | ⟨go, N, hN', step⟩
  · refine wpAny_passesOwn hp (thn (T.done X rfl rfl rfl hc i3 pins s3 σ3 H3 X.xe I3 (stat fr3) st3 stop) fun r s4 ⟨hr, k4, I4⟩ => ?_)
    subst hr
    exact wpAny_execs_nil ⟨((k1.trans k2).trans k3).trans (kn_fp f2 k4), σ3, H3, f1.trans z3, I4, qn⟩
  · obtain ⟨xs3, x3, hq3, hx3⟩ := go
    obtain ⟨its3, rv3, p3, _⟩ := I3.list hq3
    have eits : its.toList = its3 := by
      obtain ⟨e1, _⟩ := I3.hok a _ hp3
      obtain ⟨o, n2, e2, _, _, e3⟩ := p3
      rw [e1] at e2
      cases e2
      rw [hd] at e3
      cases e3
      simp
    obtain ⟨u, hu, ru⟩ := rv3.get hx3
    obtain ⟨g0, g1', g2, g3, g4, g5⟩ := stat fr3 it (by simp)
    refine wpAny_passesOwn hp (wpAny_pyNext_list_item st3 p3.isList (x := u) (by simpa using hu) fun h' st' sb => ?_)
    have I5 : Inv X pins σ3 H3 { s3 with heap := h' } := I3.turned (t' := s3.toks) (fun b o hb e => (sb.2 b hb).trans e) g0 g1' g3 g4 g5
    obtain ⟨o, eo, co, do'⟩ := id st'
    refine wpAny_passesOwn hp (go_of (s := { s3 with heap := h' }) eo co do' (by decide) ?_)
    have k5 : Kn X (names τ) s3 { s3 with heap := h' } := kn_fp (fp := [it]) f2 fun b o hb e => (sb.2 b (fun z => hb (by simp [z]))).trans e
    have I5' := I5.pinned (stat fr3) (T.obj _ _ st')
    have nz5 : Nz X n0 τ { s3 with heap := h' } H3 := nz2.keep mo (k3.trans k5) t3 z3
    have gu : GoodT (P s3.toks) (some u) := fun y' t' h'' => by
      cases h''
      exact mP _ _ _ t3 (gd2 _ _ (by rw [eits]; exact List.mem_of_getElem? hu))
    have yl : (Itl X.K a).yld i3 H3 x3 H3 := ⟨rfl, fun ys' hy => by rw [I3.list_inj hy hq3]; exact hx3⟩
    have q6 := step x3 H3 yl
    obtain ⟨m5, hm5, _⟩ := id I5'.loc
    refine wpAny_passesOwn hp (wpAny_assign_Name (store_k (s := { s3 with heap := h' }) I5' hN hix hk ru hm5 fun s6 I6 hn6 t6 => ?_))
    have k6 : Kn X (names τ) { s3 with heap := h' } s6 := fun m hm => by
      cases Ns.inj hm5 hm
      refine ⟨_, hn6, fun z hz => ?_⟩
      have : z ≠ x := fun e => hν (e ▸ hz)
      rw [if_neg this]
    have nz6 : Nz X n0 (⟨x, false, P⟩ :: τ) s6 H3 := by
      obtain ⟨w0', m', hm', hf'⟩ := nz5
      cases Ns.inj hm5 hm'
      refine ⟨Nat.le_trans w0' t6, _, hn6, fun f hff => ?_⟩
      rcases List.mem_cons.mp hff with e | hff
      · subst e
        refine ⟨(fun e => nomatch e), fun _ y' t' h'' => ?_⟩
        simp only [if_true] at h''
        exact mP _ _ t' t6 (gu y' t' h'')
      · refine (hf' f hff).keep (mo f hff) t6 ?_ Fz.refl
        have : f.x ≠ x := fun e => hν (e ▸ List.mem_map.mpr ⟨f, hff, rfl⟩)
        rw [if_neg this]
    refine wpAny_passesOwn hp (thk (hb.run _ s6 _ H3 _ I6 nz6 q6) fun f s7 t7 q7 => ?_)
    obtain ⟨k7, q7⟩ := q7
    have k7' : Kn X (names τ) s6 s7 := fun m hm => by
      obtain ⟨m', h1, h2⟩ := k7 m hm
      exact ⟨m', h1, fun z hz => h2 z (List.mem_cons_of_mem _ hz)⟩
    have kk : Kn X (names τ) s2 s7 := ((k3.trans k5).trans k6).trans k7'
    have t6' : s3.toks ≤ s6.toks := t6
    have again : ∀ {σ7 : L2.St} {H7 : Hp}, Fz H3 H7 → Inv X (pins ++ pinsAt [it] ({ s3 with heap := h' } : Shared).heap) σ7 H7 s7 → N σ7 H7 → ∃ m, m < n ∧ s2.toks ≤ s7.toks ∧ Kn X (names τ) s2 s7 ∧ ∃ i σ' H', Fz H1 H' ∧ Inv X pins σ' H' s7 ∧ s7.heap.IsListIter it a i ∧ (∀ b ∈ [it], H' b = none) ∧ W i m σ' H' := fun {σ7 H7} z7 I7 n7 => by
      obtain ⟨m', hm, w7⟩ := hN' σ7 H7 n7
      refine ⟨m', hm, by omega, kk, i3 + 1, σ7, H7, z3.trans z7, I7.unpinned, T.keep _ _ _ st' fun b hb o e => (I7.pin (b, o) (List.mem_append_right _ (List.mem_append_right _ (mem_pinsAt hb e)))).1, fun b hb => ?_, w7⟩
      obtain ⟨o, e, d⟩ := T.obj _ _ st' b hb
      exact (I7.pin (b, o) (List.mem_append_right _ (List.mem_append_right _ (mem_pinsAt hb e)))).2.1
    have kf : Kn X (names τ) s s7 := (k1.trans k2).trans kk
    cases f with
    | next => obtain ⟨σ7, H7, z7, I7, n7⟩ := q7; exact again z7 I7 n7
    | cont => obtain ⟨σ7, H7, z7, I7, n7⟩ := q7; exact again z7 I7 n7
    | brk => obtain ⟨σ7, H7, z7, I7, q7⟩ := q7; exact ⟨kf, σ7, H7, (f1.trans z3).trans z7, I7.unpinned, q7⟩
    | ret v => obtain ⟨x7, σ7, H7, z7, I7, r7, q7⟩ := q7; exact ⟨kf, x7, σ7, H7, (f1.trans z3).trans z7, I7.unpinned, r7, q7⟩
end
end DD

set_option Elab.async false
set_option linter.all false
set_option maxRecDepth 100000
set_option maxHeartbeats 4000000
/-! DD13: values of good tokens: a comprehension, join; a def whose answer is of a good token. -/
namespace DD
open PySem PySem.Spec PyProof.Rows L2 Evl

def GoodU (n : Nat) (u : Value) : Prop := ∀ z t, u = .str z t → @LE.le Nat _ 1 t ∧ @LT.lt Nat _ t n
abbrev Pn : Nat → Nat → Prop := fun n t => 1 ≤ t ∧ t < n
theorem GoodU.mono {n n' : Nat} {u : Value} (h : GoodU n u) (l : n ≤ n') : GoodU n' u := fun z t e => ⟨(h z t e).1, Nat.lt_of_lt_of_le (h z t e).2 l⟩
theorem Pn.mono : ∀ n n' t, n ≤ n' → Pn n t → Pn n' t := fun _ _ _ l h => ⟨h.1, Nat.lt_of_lt_of_le h.2 l⟩
structure PEG (X : Cx) (ν : List Str) (e : Expr) (t : TE) : Prop where
  run : ∀ (pins : List (Addr × Obj)) (s : Shared) (σ : L2.St) (H : Hp) (Q : VK), Inv X pins σ H s → 1 ≤ s.toks → t σ H Q → wpAny (model X.prog X.w) X.A (eval e X.env) (fun v s' => EK X ν pins σ s H Q v s' ∧ GoodU s'.toks v) X.xe s
section
variable {X : Cx} {ν : List Str} {a b c e o : Expr} {es : List Expr} {ta tb tc te to : TE} {t : TA} {pos p p2 p3 apos cpos : Pos} {x y : Str}
theorem peg_str {z : Str} {j : Nat} : PEG X ν (.Constant (.str z) j pos) (tC (.str z)) := by
  refine ⟨fun pins s σ H Q I h1 h => Calls.Constant_str ⟨(ev_tok I (x := .str z) ⟨_, rfl⟩ h).k, fun z' t e => ?_⟩⟩
  simp only [Value.str.injEq] at e
  obtain ⟨_, e⟩ := e
  have e' : s.toks = t := e
  exact ⟨show (1 : Nat) ≤ t by omega, Nat.lt_succ_of_le (Nat.le_of_eq e'.symm)⟩
/-- str(e) of an int -/
theorem peg_strI (hg : Gl X "str") (hm : X.mg "str" = none) (ha : PEK X ν e te)
    (he : starEach [e] X.env = [(false, eval e X.env)] := by rfl) : PEG X ν (.Call (.Name "str" p) [e] [] pos) (tCB (fun xs H Q => ∃ i, xs = [.int i] ∧ i.natAbs.log2 < 1920 ∧ Q (.str (toString i)) H) (tCons te tNil)) := by
  refine ⟨fun pins s σ H Q I h1 h => ?_⟩
  refine wpAny_Call_Name_kw (ld_blt I hg hm (by decide +kernel : bootBuiltins "str" = some (.type "str")) ?_ (by decide) (by decide))
  refine PyProof.Rows.callWith_type1 ?_ he rfl
  rw [he]
  show wpAny _ _ (spliced ((false, eval e X.env) :: [])) _ _ s
  refine Calls.spliced_cons (thk (ha.run pins s σ H _ I h) fun u s1 t1 ⟨k1, v, H1, f1, I1, r1, q1⟩ => ?_)
  obtain ⟨i, ei, hz, q⟩ := q1
  cases ei
  obtain ⟨t, rfl⟩ := r1
  refine Calls.spliced_nil (PySem.P.str_of_int hz ⟨EK.from k1 f1 (ev_tok I1 (x := .str (toString i)) ⟨_, rfl⟩ q).k, fun z' t' e => ?_⟩)
  simp only [Value.str.injEq] at e
  obtain ⟨_, e⟩ := e
  have e' : s1.toks = t' := e
  exact ⟨show (1 : Nat) ≤ t' by omega, Nat.lt_succ_of_le (Nat.le_of_eq e'.symm)⟩
/-! ### append to a list whose object is known -/
theorem app_z {E : Value → Shared → Prop} {pins : List (Addr × Obj)} {σ : L2.St} {H : Hp} {s : Shared} {D : Addr} {od : Obj} {xs : List V} {its : List Value} {n : Nat} {y : V} {v : Value} {Q : Value → Shared → Prop} (I : Inv X pins σ H s) (hD : H D = some (.frz od (.lst xs)))
    (hod : od = { cls := .type "list", data := .seq its.toArray n }) (hn : ∀ o' u', X.H_0 D ≠ some (.frz o' u')) (hz : xs.length < sizeLine) (r : RelV y v)
    (h : ∀ s' od', Inv X pins σ (upd H D (.frz od' (.lst (xs ++ [y])))) s' → od' = { cls := .type "list", data := .seq (its ++ [v]).toArray (n + 1) } → s'.toks = s.toks → Q .none s') :
    wpAny (model X.prog X.w) X.A (call (.builtin "list.append") [.ref D, v]) Q E s := by
  obtain ⟨e, hz', its', n', ri, e2⟩ := I.hok D _ hD
  have e' := e
  rw [e2] at e'
  have eo := (Option.some.inj e').trans hod
  simp only [Obj.mk.injEq, Data.seq.injEq, true_and, and_true] at eo
  obtain ⟨ei, en⟩ := eo
  have ei' : its' = its := by simpa using congrArg Array.toList ei
  subst ei' en
  have I1 := I.unlock hD hn
  have hl := ri.length
  have hD1 : upd H D (.lst xs) D = some (.lst xs) := upd_same
  refine append_at (hsz := by rw [List.size_toArray]; omega) e2 fun h' sb ho' => ?_
  have I2 := I1.write (o := .lst (xs ++ [y])) (h' := h') (t' := s.toks) (by rw [hD1]; trivial) (.inl rfl) (fun b u hb q => (sb.2 b hb).trans q) ⟨_, ho'⟩ ⟨by rw [List.length_append]; exact hz, its' ++ [v], n' + 1, ri.append (.cons r .nil), by rw [ho']; simp⟩
  rw [upd_upd] at I2
  obtain ⟨od', I3⟩ := I2.lock (d := D) (u := .lst (xs ++ [y])) upd_same trivial
  rw [upd_upd] at I3
  refine h _ od' I3 ?_ rfl
  obtain ⟨e3, _⟩ := I3.hok D _ upd_same
  have e3' : h'.get? D = some od' := e3
  rw [ho'] at e3'
  rw [← Option.some.inj e3']
  simp
/-! ### a comprehension whose items are of good tokens -/
def tLcZ (wi : TI) (g : TG) (te : TE) (vs : List Nat) : TE := fun σ H Q => wi σ H fun J H1 => ∀ D, H1 D = none → ∃ W : Nat → Nat → Hp → Prop, (∃ m, ∀ od, W 0 m (upd H1 D (.frz od (.lst [])))) ∧ ∀ i m H, W i m H →
  (J.stop i H ∧ Q (.ref D) H) ∨ (J.go i H ∧ ∃ Nx : Hp → Prop, (∀ H', Nx H' → ∃ m', m' < m ∧ W (i + 1) m' H') ∧ ∀ x H', J.yld i H x H' → g x (wipe σ vs) H' fun σ2 H2 => wipe σ2 vs = wipe σ vs ∧
    te σ2 H2 fun y H4 => ∃ acc od, H4 D = some (.frz od (.lst acc)) ∧ acc.length < sizeLine ∧ ∀ od', Nx (upd H4 D (.frz od' (.lst (acc ++ [y])))))
theorem lcz {pins : List (Addr × Obj)} {s : Shared} {σ : L2.St} {H : Hp} {Q : VK} {elt tg iter : Expr} {scope : Scope} {own : List (Str × Nat)} {pos : Pos} {wi : TI} {g : TG} {te : TE} {R : Value → Shared → Prop}
    (hc : X.calm = true) (hN : X.N.Nodup) (I : Inv X pins σ H s) (h1 : 1 ≤ s.toks) (hi : PIK X [] tg iter wi) (ok : BlkOk X.N X.env.scope scope own)
    (hg : ∀ (s : Shared) (H : Hp) (C : Addr) (cl : List (Str × Addr)) (fp : List Addr), PGK (X.blk s H scope (compEnvC scope cl C X.env) fp) [] tg g)
    (he : ∀ (s : Shared) (H : Hp) (C : Addr) (cl : List (Str × Addr)) (fp : List Addr), PEG (X.blk s H scope (compEnvC scope cl C X.env) fp) [] elt te) (hs : ∀ x, foldedSetIterable iter X.env x = pure x)
    (h : tLcZ wi g te (own.map (·.2)) σ H Q)
    (fin : ∀ (D : Addr) (s' : Shared) (H' : Hp) (od : Obj) (ys : List V) (its : List Value) (n : Nat), 1 ≤ s'.toks → Inv X pins σ H' s' → H' D = some (.frz od (.lst ys)) → od = { cls := .type "list", data := .seq its.toArray n } → GoodI (Pn s'.toks) its → Q (.ref D) H' → R (.ref D) s') :
    wpAny (model X.prog X.w) X.A (eval (.ListComp elt [⟨tg, iter, [], 0⟩] scope pos) X.env) R X.xe s := by
  rw [eval_ListComp]
  have hfree : ∀ y ∈ scope.names, y.2 = .free → ∃ c, X.env.cells.lookup y.1 = some c := fun y hy e => by
    rcases ok.free y hy e with k | k
    · exact I.ok.has _ (.inl k)
    · exact I.ok.has _ (.inr k)
  refine wpAny_comprehension_free rfl hs (closure_ok hfree) ok.kind (fun y hy e => by rw [ok.uniq y hy, e])
    (thk (hi.run pins s σ H _ I h) fun xv s1 t1 hx => thk hx fun itv s2 t2 h2 => ?_)
  obtain ⟨_, it, fp, tn, J, H2, e, _, I2, T, st2, f2, q⟩ := h2
  subst e
  refine wpAny_newObj_type (newEnv_comp ?_) (by show 0 ≤ sizeLine; decide)
  generalize hD : s2.heap.objs.size = D
  have hDn : H2 D = none := I2.hok.fresh (Nat.le_of_eq hD)
  obtain ⟨W, ⟨m0, w0⟩, turn⟩ := q D hDn
  generalize hs3 : ({ s2 with heap := s2.heap.push { cls := .type "list", data := .seq ([] : List Value).toArray } } : Shared) = s3
  have I3 : Inv X pins σ (upd H2 D (.lst [])) s3 := by
    rw [← hs3]
    refine I2.laid (t' := s2.toks) (fun b o e => Heap.get?_push_of_some _ e) (Nat.le_of_eq hD) ⟨Nat.zero_le _, [], 0, .nil, ?_⟩
    rw [← hD]
    exact Heap.get?_push_size _ rfl
  have h3 : s3.heap = s2.heap.push { cls := .type "list", data := .seq ([] : List Value).toArray } := by rw [← hs3]
  have t3 : s2.toks = s3.toks := by rw [← hs3]
  have d3 : s3.heap.get? D = some { cls := .type "list", data := .seq ([] : List Value).toArray } := by rw [h3, ← hD]; exact Heap.get?_push_size _ rfl
  have sz : ∀ b ∈ fp, b < s2.heap.objs.size := fun b hb => by
    obtain ⟨o, e, _⟩ := T.obj _ _ st2 b hb
    exact Heap.lt_size e
  have f3 : ∀ b ∈ fp, FpOk X pins (upd H2 D (.lst [])) b ∧ b < s3.heap.objs.size := fun b hb => by
    have hlt := sz b hb
    refine ⟨⟨?_, (f2 b hb).2⟩, by rw [h3, Heap.size_push]; exact Nat.lt_succ_of_lt hlt⟩
    rw [upd_ne (by rw [← hD]; exact Nat.ne_of_lt hlt)]
    exact (f2 b hb).1
  have st3 : tn 0 s3.heap := T.keep _ _ _ st2 fun b _ o e => by rw [h3]; exact Heap.get?_push_of_some _ e
  have I4 := block_start I3 ok hN f3
  have pg := hg s3 (upd H2 D (.lst [])) s3.heap.objs.size (cellsFrom (s3.heap.objs.size + 1) scope.names (cloFrom X.env.cells scope.names [])) fp
  have pe := he s3 (upd H2 D (.lst [])) s3.heap.objs.size (cellsFrom (s3.heap.objs.size + 1) scope.names (cloFrom X.env.cells scope.names [])) fp
  show codeAny _ _ (.compStart (.ListComp elt [⟨tg, iter, [], 0⟩] scope pos) 0 (.ref it) (.ref D) (compEnvC scope (cellsFrom (s3.heap.objs.size + 1) scope.names (cloFrom X.env.cells scope.names [])) s3.heap.objs.size X.env)) (compPost (model X.prog X.w) X.A X.xe _ _ (.ref D) s3.heap.objs.size) { s3 with heap := pushCells (s3.heap.push { cls := .type "dict", data := .dict #[] }) scope.names }
  have nfp : ∀ b ∈ fp, (upd H2 D (.lst [])) b = none := fun b hb => (f3 b hb).1.1
  have neD : ∀ b ∈ fp, b ≠ D := fun b hb z => by
    have := nfp b hb
    rw [z, upd_same] at this
    cases this
  generalize hce : compEnvC scope (cellsFrom (s3.heap.objs.size + 1) scope.names (cloFrom X.env.cells scope.names [])) s3.heap.objs.size X.env = ce at I4 pg pe ⊢
  have cL : ce.locals = s3.heap.objs.size := by subst hce; rfl
  have hH3D : upd H2 D (.lst []) D = some (.lst []) := upd_same
  have w0' : ∀ od, W 0 m0 (upd (upd H2 D (.lst [])) D (.frz od (.lst []))) := fun od => by rw [upd_upd]; exact w0 od
  generalize hH3 : upd H2 D (.lst []) = H3 at I3 I4 pg pe nfp f3 hH3D w0'
  generalize hs4 : ({ s3 with heap := pushCells (s3.heap.push { cls := .type "dict", data := .dict #[] }) scope.names } : Shared) = s4 at I4 ⊢
  have t4 : s3.toks = s4.toks := by rw [← hs4]
  have kp4 : ∀ b o, s3.heap.get? b = some o → s4.heap.get? b = some o := fun b o e => by rw [← hs4]; exact pushCells_keeps _ _ _ _ (Heap.get?_push_of_some _ e)
  have st4 : tn 0 s4.heap := T.keep _ _ _ st3 fun b _ o e => kp4 b o e
  have stat : ∀ {σ' : L2.St} {H' : Hp} {s' : Shared}, Inv (X.blk s3 H3 scope ce fp) [] σ' H' s' → (∀ b ∈ fp, H' b = none) → ∀ b ∈ fp, FpOk (X.blk s3 H3 scope ce fp) [] H' b := fun {σ' H' s'} I' hn b hb =>
    ⟨hn b hb, (I'.ok.exf b hb).1, I'.ok.exfs b hb, .inl hb, fun x c e => (I'.ok.exf b hb).2 x c e, fun p hp => absurd (show p ∈ ([] : List (Addr × Obj)) ++ [] from hp) (by simp)⟩
  have hH0 : ∀ o' u', (X.blk s3 H3 scope ce fp).H_0 D ≠ some (.frz o' u') := fun o' u' e => by
    have e' : H3 D = some (.frz o' u') := e
    rw [hH3D] at e'
    cases e'
  obtain ⟨od0, I4'⟩ := I4.lock hH3D trivial
  have eod0 : od0 = { cls := .type "list", data := .seq ([] : List Value).toArray } := by
    obtain ⟨e1, _⟩ := I4'.hok D _ upd_same
    rw [kp4 _ _ d3] at e1
    exact (Option.some.inj e1).symm
  have h14 : 1 ≤ s4.toks := by omega
  have loop : codeAny (model X.prog X.w) X.A (.compLoop (.ListComp elt [⟨tg, iter, [], 0⟩] scope pos) 0 (.ref it) (.ref D) ce) (compPost (model X.prog X.w) X.A X.xe none R (.ref D) s3.heap.objs.size) s4 := by
    refine compLoop_any (fun n s' => 1 ≤ s'.toks ∧ ∃ i H' od acc its k, Inv (X.blk s3 H3 scope ce fp) [] (wipe σ (own.map (·.2))) H' s' ∧ tn i s'.heap ∧ (∀ b ∈ fp, H' b = none) ∧ W i n H' ∧ H' D = some (.frz od (.lst acc)) ∧
      od = { cls := .type "list", data := .seq its.toArray k } ∧ GoodI (Pn s'.toks) its) ?_ m0 ⟨h14, 0, _, od0, [], [], 0, I4', st4, fun b hb => by rw [upd_ne (neD b hb)]; exact nfp b hb, w0' od0, upd_same, eod0, fun _ _ h => absurd h (by simp)⟩
    rintro n s5 ⟨h15, i, H5, od5, acc5, its5, k5, I5, st5, n5, w5, hD5, eod5, g5⟩
    rcases turn i n H5 w5 with ⟨stop, qq⟩ | ⟨go, Nx, hNx, step⟩
    · have td := T.done (X.blk s3 H3 scope ce fp) rfl rfl rfl hc i [] s5 _ H5 (fun _ _ => False) I5 (stat I5 n5) st5 stop
      refine thnF (thk td fun r s6 t6 q => And.intro t6 q) fun r s6 ⟨t6, hr, _, I6⟩ => ?_
      subst hr
      have I7 : Inv X pins σ H5 s6 := I3.call' (ch := fp) I6.os I6.base I6.hok I6.bare fun b hb => ⟨(f3 b hb).1.2.2.2.1, (f3 b hb).1.2.1, (f3 b hb).1.2.2.2.2.1, (f3 b hb).1.2.2.2.2.2⟩
      have nC : H5 s3.heap.objs.size = none := by
        have z : H5 ce.locals = none := I6.free
        rw [cL] at z
        exact z
      obtain ⟨m, hn, _⟩ := I6.loc
      have hn : s6.heap.Ns ce.locals m := hn
      rw [cL] at hn
      have f := I3.fpOk (Nat.le_refl _) nC
      refine ⟨m, hn, fun h'' sb => ?_⟩
      obtain ⟨f0, f1, f2, f3, f4, f5⟩ := f
      exact fin D _ H5 od5 acc5 its5 k5 (show 1 ≤ s6.toks by omega) (I7.turned (t' := s6.toks) (fun b o hb e => (sb.2 b hb).trans e) f0 f1 f3 f4 f5) hD5 eod5 (fun z t q => Pn.mono _ _ t t6 (g5 z t q)) qq
    · have ti := T.item (X.blk s3 H3 scope ce fp) rfl rfl rfl hc i [] s5 _ H5 (fun _ _ => False) I5 (stat I5 n5) st5 go
      refine thnF (thk ti fun r s6 t6 q => And.intro t6 q) fun r s6 ⟨t6, u, hr, h6⟩ => ?_
      subst hr
      refine thnF (thk h6 fun _ s7 t7 q => And.intro t7 q) fun _ s7 ⟨t7, _, x, I7, r7, y7, st7⟩ => ?_
      have I7' := I7.pinned (stat I7 n5) (T.obj _ _ st7)
      refine thnF (thk (pg.run _ s7 _ H5 x u _ I7' r7 (step x H5 y7)) fun _ s8 t8 q => And.intro t8 q) fun _ s8 ⟨t8, _, σ8, H8, z8, I8, hw8, q8⟩ => ?_
      refine wpAny_tests_nil ?_
      simp only [if_true]
      refine thnF (thk (pe.run _ s8 σ8 H8 _ I8 (by omega) q8) fun z s10 t10 q => And.intro t10 q) fun z s10 ⟨t10, ⟨_, yv, H10, z10, I10, r10, acc, od, hD10, hz10, nx⟩, gz⟩ => ?_
      have hD10' := z10 _ _ _ (z8 _ _ _ hD5)
      rw [hD10] at hD10'
      cases hD10'
      refine app_z (X := X.blk s3 H3 scope ce fp) I10 hD10 eod5 hH0 hz10 r10 fun s11 od' I11 eod' t11 => ?_
      obtain ⟨m', hm, w'⟩ := hNx _ (nx od')
      have pin' : ∀ b ∈ fp, ∀ o, s7.heap.get? b = some o → s11.heap.get? b = some o ∧ upd H10 D (.frz od' (.lst (acc5 ++ [yv]))) b = none := fun b hb o e =>
        let z := I11.pin (b, o) (List.mem_append_right _ (List.mem_append_right _ (mem_pinsAt hb e)))
        ⟨z.1, z.2.1⟩
      have hl : (wipe σ (own.map (·.2))).length = σ8.length := by rw [← hw8, wipe_length]
      have t511 : s5.toks ≤ s11.toks := by omega
      refine ⟨m', hm, by omega, i + 1, _, od', _, _, _, (I11.unpinned (pins := [])).weak hl (fun j v e => ?_), T.keep _ _ _ st7 fun b hb o e => (pin' b hb o e).1, fun b hb => ?_, w', upd_same, eod', fun y' t' h' => ?_⟩
      · rw [← hw8] at e
        exact (wipe_some e).1
      · obtain ⟨o, e, _⟩ := T.obj _ _ st7 b hb
        exact (pin' b hb o e).2
      · rcases List.mem_append.mp h' with h' | h'
        · exact Pn.mono _ _ t' t511 (g5 y' t' h')
        · rw [List.mem_singleton] at h'
          have := gz y' t' h'.symm
          exact ⟨this.1, by rw [t11]; exact this.2⟩
  exact codeAny_compStart_list loop (T.self X.A 0 _ _ _ st4 loop)
end
end DD

set_option Elab.async false
set_option linter.all false
set_option maxRecDepth 100000
set_option maxHeartbeats 4000000
/-! DD14: join to the token; defs whose answer is of a good token, defs that ask for good tokens; rules of a law's body. -/
namespace DD
open PySem PySem.Spec PyProof.Rows L2 Evl

theorem post_joinG {s : Shared} {sep : Str} {Q : Value → Shared → Prop} : ∀ (l : List (Str × Tok)), (Txt.join sep (l.map (·.1))).length ≤ sizeLine →
    (∀ t' k, (t' = s.toks ∧ k = s.toks + 1) ∨ (∃ p ∈ l, t' = p.2 ∧ k = s.toks) → Q (.str (Txt.join sep (l.map (·.1))) t') { s with toks := k }) → (joinMade sep l).post Q s
  | [], h, hq => ⟨h, hq _ _ (.inl ⟨rfl, rfl⟩)⟩
  | [p], h, hq => hq p.2 s.toks (.inr ⟨p, by simp, rfl, rfl⟩)
  | _ :: _ :: _, h, hq => ⟨h, hq _ _ (.inl ⟨rfl, rfl⟩)⟩
theorem mem_strValues : ∀ {l : List (Str × Tok)} {p : Str × Tok}, p ∈ l → Value.str p.1 p.2 ∈ strValues l
  | [], _, h => absurd h (by simp)
  | q :: l, p, h => by
    rcases List.mem_cons.mp h with e | h
    · subst e
      exact List.mem_cons_self
    · exact List.mem_cons_of_mem _ (mem_strValues h)
theorem join_raw {prog : Program} {w : World} {A : Around} {E : Value → Shared → Prop} {s : Shared} {x : Str} {t : Tok} {D : Addr} {its : List Value} {ys : List Str} {Q : Value → Shared → Prop} (hl : s.heap.IsList D its.toArray) (hi : StrsAre its ys)
    (hok : (ys.map (·.length)).sum + ys.length * x.length ≤ 16777216) (h1 : 1 ≤ s.toks) (g : GoodI (Pn s.toks) its) (h : ∀ t' k, s.toks ≤ k → @LE.le Nat _ 1 t' ∧ @LT.lt Nat _ t' k → Q (.str (Txt.join x ys) t') { s with toks := k }) :
    wpAny (model prog w) A (call (.builtin "str.join") [.str x t, .ref D]) Q E s := by
  obtain ⟨l, hv, ht⟩ := strsAre_values hi
  subst hv ht
  have hok' := joinOk_of hok
  unfold JoinOk at hok'
  rw [Bool.not_eq_true'] at hok'
  refine call_meets F.slot_str_join (typeIs_str _ _ _) F.entry_str_join (F.args_str_join_2 _ _) (meets_str_join_list x t D l hok') ⟨hl, post_joinG l (joinFit_length hok') fun t' k c => ?_⟩
  rcases c with ⟨c1, c2⟩ | ⟨p, hp, c1, c2⟩
  · subst c1 c2
    exact h _ _ (Nat.le_succ _) ⟨h1, Nat.lt_succ_self _⟩
  · subst c1 c2
    exact h _ _ (Nat.le_refl _) (g _ _ (mem_strValues hp))
section
variable {X : Cx} {ν : List Str} {a b c e o : Expr} {es : List Expr} {ta tb tc te to : TE} {t : TA} {pos p p2 p3 apos cpos : Pos} {x y : Str}
/-- sep.join([elt for ..]) -/
theorem peg_joinLc {z : Str} {j : Nat} {q0 : Pos} {elt tg iter : Expr} {scope : Scope} {own : List (Str × Nat)} {lpos : Pos} {wi : TI} {g : TG} (hc : X.calm = true) (hN : X.N.Nodup) (hi : PIK X [] tg iter wi) (ok : BlkOk X.N X.env.scope scope own)
    (hg : ∀ (s : Shared) (H : Hp) (C : Addr) (cl : List (Str × Addr)) (fp : List Addr), PGK (X.blk s H scope (compEnvC scope cl C X.env) fp) [] tg g)
    (he : ∀ (s : Shared) (H : Hp) (C : Addr) (cl : List (Str × Addr)) (fp : List Addr), PEG (X.blk s H scope (compEnvC scope cl C X.env) fp) [] elt te) (hs : ∀ x, foldedSetIterable iter X.env x = pure x := by intro _; rfl)
    (hbase : attributeBase (.Constant (.str z) j q0) "join" X.env (eval (.Constant (.str z) j q0) X.env) = eval (.Constant (.str z) j q0) X.env := by rfl)
    (hfew : ((backTo cpos (starEach [.ListComp elt [⟨tg, iter, [], 0⟩] scope lpos] X.env)).all (fun x => !x.1) && (backToKw cpos (keywordEach [] X.env)).all (fun x => x.1.isSome)
      && decide (([Expr.ListComp elt [⟨tg, iter, [], 0⟩] scope lpos] : List Expr).length + ([] : List Keyword).length + (if ([] : List Keyword).isEmpty then 0 else 1) < 30)) = true := by rfl)
    (hline : (apos.endLine == cpos.line) = true := by rfl) (hst : starEach [.ListComp elt [⟨tg, iter, [], 0⟩] scope lpos] X.env = [(false, eval (.ListComp elt [⟨tg, iter, [], 0⟩] scope lpos) X.env)] := by rfl) :
    ∀ (pins : List (Addr × Obj)) (s : Shared) (σ : L2.St) (H : Hp) (Q : VK), Inv X pins σ H s → 1 ≤ s.toks → tBM X.K "str" (rJoinK X.K) (tC (.str z)) (tCons (tLcZ wi g te (own.map (·.2))) tNil) σ H Q →
      wpAny (model X.prog X.w) X.A (eval (.Call (.Attribute (.Constant (.str z) j q0) "join" apos) [.ListComp elt [⟨tg, iter, [], 0⟩] scope lpos] [] cpos) X.env) (fun v s' => EP X pins σ Q v s' ∧ GoodU s'.toks v) X.xe s := by
  intro pins s σ H Q I h1 h
  obtain ⟨ty, h⟩ := h
  refine wpAny_Call_method_late hbase hfew hline rfl (Calls.Constant_str ?_)
  refine ⟨"str", _, PySem.F.plainAttrs_str, PySem.F.slot_str_join, PySem.F.type_str_join, typeIs_str _ _ _, (fun _ e => nomatch e), Calls.callWith_builtin rfl (Calls.evalArgs_plain ?_)⟩
  show wpAny _ _ (spliced ((false, eval (.ListComp elt [⟨tg, iter, [], 0⟩] scope lpos) X.env) :: [])) _ _ _
  refine Calls.spliced_cons (lcz hc hN (I.tok (s.toks + 1)) (by show 1 ≤ s.toks + 1; omega) hi ok hg he hs h fun D s' H' od ys its n t1 I' hD eod gi q => ?_)
  refine Calls.spliced_nil ?_
  obtain ⟨a, p', zs, ea, ep, hq, hz, q⟩ := q
  cases ea
  cases ep
  have ez : ys = zs.map V.str := I'.list_inj (show SqL X.K H' D ys from .inl (.inr ⟨od, hD⟩)) hq
  obtain ⟨e1, _, its', n', r, e2⟩ := I'.hok D _ hD
  rw [e2] at e1
  have eo := (Option.some.inj e1).trans eod
  simp only [Obj.mk.injEq, Data.seq.injEq, true_and, and_true] at eo
  have ei' : its' = its := by simpa using congrArg Array.toList eo.1
  subst ei'
  rw [ez] at r
  refine join_raw ⟨_, e2, rfl, _, rfl⟩ (strs_of_vals r) hz t1 gi fun t' k hk ht => ⟨⟨.str (Txt.join z zs), H', I'.tok k, ⟨t', rfl⟩, q⟩, fun y' t2 e => ?_⟩
  cases e
  exact ht
end

/-! ### a def's entry -/
def argMap (ps : List Str) (us : List Value) : Str → Option Value := fun y => (ps.zip us).reverse.lookup y
theorem enter {P : Program} {w : World} {K : PySem.W.Frag} {mg : Str → Option Value} {base : Heap} {x qual : Str} {st : Stmt} {f : Addr} {fd : FuncData} {N ps : List Str} {k : Nat} (F : Fun K x qual st f fd) (S : FnScope N ps (defScope st)) (hloc : ∀ y ∈ ps, (defScope st).names.lookup y = some .local)
    {A : Around} {outer : List Env} {s : Shared} {H : Hp} {args : Args} {us : List Value} {vs : List V} {Q : VK} {E : XK} {G : Shared → Value → Prop} (hr : Room (k + 1) A) (e0 : Env0 P w K mg base A outer s H) (hb : BindsTo s fd args (ps.zip us)) (r : Vals vs us) (hl : vs.length = ps.length) (hG : ∀ s', G s' .none)
    (body : ∀ (cdv : Value) (s1 : Shared), Room k (A.deeper (envOfC qual (defScope st) s.heap.objs.size f cdv)) → s.toks ≤ s1.toks → Inv (cxOf CX0 P w K mg base N qual (defScope st) f cdv A outer s H E).nox [] (start N vs) H s1 →
      s1.heap.Ns (cxOf CX0 P w K mg base N qual (defScope st) f cdv A outer s H E).nox.env.locals (argMap ps us) →
      wpAny (model P w) (cxOf CX0 P w K mg base N qual (defScope st) f cdv A outer s H E).nox.A (execs (defBody st) (cxOf CX0 P w K mg base N qual (defScope st) f cdv A outer s H E).nox.env)
        (fun fl s' => SP (cxOf CX0 P w K mg base N qual (defScope st) f cdv A outer s H E).nox [] { nx := fun _ H' => Q .non H', rt := Q } fl s' ∧ ∀ u, fl = .ret u → G s' u) (cxOf CX0 P w K mg base N qual (defScope st) f cdv A outer s H E).nox.xe s1) :
    codeAny (model P w) A (.call (.ref f) args) (fun r s' => L2.CR CX0 outer P w H s Q E r s' ∧ ∀ u, r = .ok (.ret u) → G s' u) s := by
  obtain ⟨oc, od, kV, doc, pm, an, cdv, ct, osl, rfl, lk, hcd⟩ := F.ex
  have KX : K.In s.heap := e0.mod.kin.keeps fun b o e => (e0.bs b o e).1
  have lim : s.heap.NoLimit := e0.mod.nolimit.keeps fun b o e => (e0.bs b o e).1
  have hul : us.length = ps.length := by rw [← r.length, hl]
  have hkind : ∀ y ∈ ps.zip us, (defScope st).names.lookup y.1 = some .local ∨ ((defScope st).names.lookup y.1 = some .cell ∧ ((cellsFrom (s.heap.objs.size + 1) (defScope st).names []).lookup y.1).isSome = true) := fun ⟨n, v⟩ hy => .inl (hloc n (List.of_mem_zip hy).1)
  refine codeAny_call_function hr.depth (KX _ _ lk) rfl S.co S.gen rfl (PySem.W.codeRec_of KX hcd) (hb _ _ _ _ ?_)
  refine PySem.wpAny_with_toks (Nat.le_refl _) (wpAny_newFunctionEnv_cells S.kind hkind fun env he s1 xx ht => ?_)
  subst he
  refine ⟨lim.keeps xx.toInCall.keep, codeAny_func ?_⟩
  have I : Inv (cxOf CX0 P w K mg base N qual (defScope st) f cdv A outer s H E) [] (start N vs) H s1 := inv_start S hr.hd e0 hl r xx
  have hkl : ∀ y ∈ ps.zip us, (envOfC qual (defScope st) s.heap.objs.size f cdv).kindOf y.1 = some .local := fun ⟨n, v⟩ hy => hloc n (List.of_mem_zip hy).1
  have hns : s1.heap.Ns s.heap.objs.size (argMap ps us) := by
    have h0 : s1.heap.Ns s.heap.objs.size (bindL (envOfC qual (defScope st) s.heap.objs.size f cdv).kindOf (ps.zip us) fun _ => none) := xx.toInCall.ns
    have hm : (bindL (envOfC qual (defScope st) s.heap.objs.size f cdv).kindOf (ps.zip us) fun _ => none) = argMap ps us := by
      funext y
      rw [bindL_loc _ _ hkl y]
      unfold argMap
      cases (ps.zip us).reverse.lookup y <;> rfl
    rw [hm] at h0
    exact h0
  refine wpAny_mono (body cdv s1 (hr.deeper _) ht (I.wish _) hns) (fun fl s' ⟨hs, hg⟩ => ?_) fun e s' hs => False.elim hs
  have hs := hs.unwish
  have fin : ∀ {σ' : L2.St} {H' : Hp} {v : V} {u : Value}, Inv (cxOf CX0 P w K mg base N qual (defScope st) f cdv A outer s H E) [] σ' H' s' → RelV v u → Q v H' → CE outer P w H s Q u s' :=
    fun {σ' H' v u} J rv q => ⟨v, H', J.os, J.bare, J.base, J.hok, rv, q⟩
  cases fl with
  | ret u =>
    obtain ⟨v, σ', H', J, rv, q⟩ := hs
    refine ⟨fin J rv q, fun u' e => ?_⟩
    cases e
    exact hg u rfl
  | next =>
    obtain ⟨σ', H', J, q⟩ := hs
    refine ⟨fin (v := V.non) (u := Value.none) J rfl q, fun u' e => ?_⟩
    cases e
    exact hG s'
  | brk =>
    obtain ⟨_, _, _, q⟩ := hs
    exact False.elim q
  | cont =>
    obtain ⟨_, _, _, q⟩ := hs
    exact False.elim q

/-! ### a def whose answer is of a good token -/
structure FnG (P : Program) (w : World) (K : PySem.W.Frag) (mg : Str → Option Value) (base : Heap) (f : Addr) (x : Str) (k n : Nat) (F : List D → Option D) : Prop where
  g : mg x = some (.ref f)
  kp : PySem.W.keepIn K (.ref f) = true
  ar : ∀ ds d, F ds = some d → ds.length = n
  run : ∀ (A : Around) (outer : List Env) (s : Shared) (H : Hp) (us : List Value) (vs : List V) (Q : VK) (E : XK), Room k A → Env0 P w K mg base A outer s H → Vals vs us → 1 ≤ s.toks → spD K n F vs H Q E →
    codeAny (model P w) A (.call (.ref f) ⟨us, []⟩) (fun r s' => L2.CR CX0 outer P w H s Q E r s' ∧ ∀ u, r = .ok (.ret u) → GoodU s'.toks u) s
structure PBG (X : Cx) (sts : List Stmt) (t : TS) : Prop where
  run : ∀ (pins : List (Addr × Obj)) (s : Shared) (σ : L2.St) (H : Hp) (D : Ends), Inv X pins σ H s → 1 ≤ s.toks → t D σ H → wpAny (model X.prog X.w) X.A (execs sts X.env) (fun f s' => SP X pins D f s' ∧ ∀ u, f = .ret u → GoodU s'.toks u) X.xe s
/-- an expression of a good token, without what else it keeps -/
structure PEH (X : Cx) (e : Expr) (t : TE) : Prop where
  run : ∀ (pins : List (Addr × Obj)) (s : Shared) (σ : L2.St) (H : Hp) (Q : VK), Inv X pins σ H s → 1 ≤ s.toks → t σ H Q → wpAny (model X.prog X.w) X.A (eval e X.env) (fun v s' => EP X pins σ Q v s' ∧ GoodU s'.toks v) X.xe s
section
variable {X : Cx} {ν : List Str} {c e : Expr} {es : List Expr} {te : TE} {tc : TT} {t : TA} {ts tu tv : TS} {a b sts : List Stmt} {pos p : Pos} {x : Str}
theorem PEG.h (h : PEG X ν e te) : PEH X e te := ⟨fun pins s σ H Q I h1 q => thn (h.run pins s σ H Q I h1 q) fun _ _ z => ⟨z.1.ep, z.2⟩⟩
theorem pbg_ret (h : PEH X e te) : PBG X [.Return (some e) pos] (tRet te) := by
  refine ⟨fun pins s σ H D I h1 q => ?_⟩
  refine wpAny_execs_cons (wpAny_Return_some (thn (h.run pins s σ H _ I h1 q) fun v s1 ⟨⟨x, H1, I1, r1, q1⟩, g⟩ => ⟨⟨x, σ, H1, I1, r1, q1⟩, fun u eu => ?_⟩))
  cases eu
  exact g
theorem pbg_if (hc : PT X c tc) (ha : PBG X a ts) (hb : PBG X sts tv) : PBG X (.If c a [] pos :: sts) (tSeq (tIfS tc ts tNext) tv) := by
  refine ⟨fun pins s σ H D I h1 q => ?_⟩
  refine wpAny_execs_cons (wpAny_If (thk (hc.run pins s σ H _ I q) fun d s1 t1 ⟨H1, I1, q1⟩ => ?_))
  cases d with
  | true =>
    refine thk (ha.run pins s1 σ H1 _ I1 (by omega) q1) fun f s2 t2 ⟨q2, g2⟩ => ?_
    cases f with
    | next =>
      obtain ⟨σ', H', I', q'⟩ := q2
      exact hb.run pins s2 σ' H' D I' (by omega) q'
    | ret u => exact ⟨q2, g2⟩
    | brk => exact ⟨q2, g2⟩
    | cont => exact ⟨q2, g2⟩
  | false =>
    exact wpAny_execs_nil (hb.run pins s1 σ H1 D I1 (by omega) q1)
theorem run_fnG {k n : Nat} {f : Addr} {F : List D → Option D} {pins : List (Addr × Obj)} {σ : L2.St} {H : Hp} {s : Shared} {Q : VK} {us : List Value} {vs : List V}
    (T : FnG X.prog X.w X.K X.mg X.base f x k n F) (hr : Room k X.A) (I : Inv X pins σ H s) (r : Vals vs us) (h1 : 1 ≤ s.toks) (h : spD X.K n F vs H Q E0) : wpAny (model X.prog X.w) X.A (call (.ref f) us) (fun v s' => EK X ν pins σ s H Q v s' ∧ GoodU s'.toks v) X.xe s := by
  refine wpAny_call (codeAny_mono (T.run X.A X.stack s H us vs Q E0 hr I.env0 r h1 h) fun r s' hq => ?_)
  obtain ⟨hq, hg⟩ := hq
  cases r with
  | error e => exact pass0 pins σ H s e s' I hq
  | ok fl =>
    cases fl with
    | ret u => exact ⟨Inv.afterK I hq, hg u rfl⟩
    | next => exact False.elim hq
    | brk => exact False.elim hq
    | cont => exact False.elim hq
theorem peg_call {k n : Nat} {f : Addr} {F : List D → Option D} (T : FnG X.prog X.w X.K X.mg X.base f x k n F) (hr : Room k X.A) (hg : Gl X x) (ha : PAK X ν (e :: es) t)
    (hdb : (x == ("__debug__" : Str)) = false := by decide) (he : starEach (e :: es) X.env = (false, eval e X.env) :: starEach es X.env := by rfl) (hpl : (backTo pos (starEach es X.env)).any (·.1) = false := by rfl) :
    PEG X ν (.Call (.Name x p) (e :: es) [] pos) (tCall (spD X.K n F) [] E0 t) := by
  refine ⟨fun pins s σ H Q I h1 h => ?_⟩
  refine wpAny_Call_Name_kw (ld_glob I hg T.g ?_ hdb)
  refine PySem.W.callWith_K (h₀ := X.base) I.ok.mod.kin T.kp (thk (ha.run pos pins s σ H _ I h) fun us s1 t1 ⟨k1, vs, H1, f1, I1, r, q⟩ => ⟨I1.kIn, ?_⟩) he hpl
  have q : spD X.K n F (vs ++ []) H1 Q E0 := q
  rw [List.append_nil] at q
  exact thn (run_fnG T hr I1 r (by omega) q) fun _ _ z => ⟨EK.from k1 f1 z.1, z.2⟩
/-- x, y = e1, e2, both of good tokens -/
theorem z_par {i j : Nat} {x y : Str} {a b : Expr} {ta tb : TE} {px py pt pos : Pos} {kt k2 : Nat} {pt2 : Pos} {n0 : Nat} (h0 : 1 ≤ n0) (hN : X.N.Nodup) (ha : PEH X a ta) (hb : PEH X b tb) (hw : swappedStores [.Tuple [.Name x px, .Name y py] kt pt] (.Tuple [a, b] k2 pt2) X.env = pure (some [x, y]) := by rfl)
    (hi : X.N[i]? = some x := by rfl) (hj : X.N[j]? = some y := by rfl) (hij : i ≠ j := by decide) (hxy : x ≠ y := by decide) (hx : X.env.scope.names.lookup x = some .local := by rfl) (hy : X.env.scope.names.lookup y = some .local := by rfl) (hc : X.calm = true := by rfl)
    (hs : swapsWithSole [.Tuple [.Name x px, .Name y py] kt pt] (.Tuple [a, b] k2 pt2) pos.line X.env = pure false := by rfl)
    (hst : starEach [a, b] X.env = [(false, eval a X.env), (false, eval b X.env)] := by rfl) :
    PSZ X n0 [] [⟨x, false, Pn⟩, ⟨y, false, Pn⟩] (.Assign [.Tuple [.Name x px, .Name y py] kt pt] (.Tuple [a, b] k2 pt2) pos) (tPar i j (tCons ta (tCons tb tNil))) := by
  refine ⟨fun pins s σ H D I nz h => ?_⟩
  rw [exec_Assign_arm]
  refine wpAny_bind (wpAny_standAt ?_)
  rw [hs]
  refine wpAny_bind (wpAny_pure ?_)
  rw [if_neg (by decide)]
  refine wpAny_bind (Tuple_ ?_)
  rw [hst]
  show wpAny _ _ (spliced ((false, eval a X.env) :: (false, eval b X.env) :: [])) _ _ s
  have h0s : 1 ≤ s.toks := Nat.le_trans h0 nz.1
  refine Calls.spliced_cons (thk (ha.run pins s σ H _ I h0s h) fun u1 s1 t1 ⟨⟨v1, H1, I1, r1, q1⟩, g1⟩ => ?_)
  refine Calls.spliced_cons (thk (hb.run pins s1 σ H1 _ I1 (by omega) q1) fun u2 s2 t2 ⟨⟨v2, H2, I2, r2, q2⟩, g2⟩ => ?_)
  refine Calls.spliced_nil ?_
  obtain ⟨v, w', ev, q3⟩ := q2
  simp only [List.cons.injEq, and_true] at ev
  obtain ⟨ev1, ev2⟩ := ev
  subst ev1 ev2
  refine wpAny_newObj_type ?_ (by show 2 ≤ sizeLine; decide)
  have I3 : Inv X pins σ H2 { s2 with heap := s2.heap.push { cls := .type "tuple", data := .seq [u1, u2].toArray } } := I2.kept (t' := s2.toks) fun b o e => Heap.get?_push_of_some _ e
  rw [hw]
  refine wpAny_bind (wpAny_pure ?_)
  show wpAny (model X.prog X.w) X.A (do rule "assign.swapped-stores"; let items ← unpackItems (.ref s2.heap.objs.size) 2 none; assignInOrder [fun v => bindName X.env y v, fun v => bindName X.env x v] items.reverse; pure Flow.next) _ _ _
  refine wpAny_bind (wpAny_rule (wpAny_bind (unpackItems_tuple (items := #[u1, u2]) (I.ok.hd hc) (IsTup.new s2.heap _) fun h' hx' => ?_)))
  have I4 := I3.kept (h' := h') (t' := s2.toks) fun b o e => hx' b o (Nat.ne_of_lt (Heap.lt_size e)) e
  show wpAny _ _ (assignInOrder [fun v => bindName X.env y v, fun v => bindName X.env x v] [u2, u1] >>= fun _ => pure Flow.next) _ _ _
  obtain ⟨m4, hm4, _⟩ := id I4.loc
  refine wpAny_bind (assignInOrder_cons (wpAny_bindName (store_k I4 hN hj hy r2 hm4 (fun s5 I5 n5 t5 => ?_))))
  refine assignInOrder_cons (wpAny_bindName (store_k I5 hN hi hx r1 n5 (fun s6 I6 n6 t6 => assignInOrder_nil (wpAny_pure ?_))))
  rw [List.set_comm _ _ (Ne.symm hij)] at I6
  have t5' : s2.toks ≤ s5.toks := t5
  have h0n := nz.1
  refine ⟨rfl, _, H2, I6, ⟨by omega, _, n6, fun f hf => ?_⟩, q3⟩
  rcases List.mem_cons.mp hf with e | hf
  · subst e
    refine ⟨(fun e => nomatch e), fun _ z t' q => ?_⟩
    simp only [if_true] at q
    cases q
    have := g1 z t' rfl
    exact ⟨this.1, Nat.lt_of_lt_of_le this.2 (by omega)⟩
  · rw [List.mem_singleton] at hf
    subst hf
    refine ⟨(fun e => nomatch e), fun _ z t' q => ?_⟩
    simp only [if_neg (Ne.symm hxy), if_true] at q
    cases q
    have := g2 z t' rfl
    exact ⟨this.1, Nat.lt_of_lt_of_le this.2 (by omega)⟩

/-! ### a def that asks for good tokens -/
theorem pbn_p {n0 : Nat} {st : Stmt} (h : PS X st ts) (h2 : PBN X n0 [] sts tu) : PBN X n0 [] (st :: sts) (tSeq ts tu) := by
  refine ⟨fun pins s σ H D I nz q => ?_⟩
  refine wpAny_execs_cons (thk (h.run pins s σ H { D with nx := tu D } I q) fun f s1 t1 q1 => ?_)
  cases f with
  | next =>
    obtain ⟨σ', H', I', q⟩ := q1
    obtain ⟨m, hm, _⟩ := id I'.loc
    exact h2.run pins s1 σ' H' D I' ⟨Nat.le_trans nz.1 t1, m, hm, fun f hf => absurd hf (by simp)⟩ q
  | ret v => exact q1
  | brk => exact q1
  | cont => exact q1
/-- the facts of the texts are fixed at a number B, the list of written texts lies between B and T -/
theorem pbn_pieces {n0 i : Nat} {es : List Expr} {tl : TA} {xs : List Str} {pos cpos pos' : Pos} {sts : List Stmt} {tu : TS}
    (ha : ∀ B, 1 ≤ B → PAZ X B (xs.map fun y => ⟨y, false, fun _ t => 1 ≤ t ∧ t < B⟩) es (fun n t => B ≤ t ∧ t < n) tl) (h0 : 1 ≤ n0) (hN : X.N.Nodup) (hν : x ∉ xs)
    (rest : ∀ B T, 1 ≤ B → B ≤ T → PBN X T (⟨x, true, fun _ t => B ≤ t ∧ t < T⟩ :: xs.map fun y => ⟨y, false, fun _ t => 1 ≤ t ∧ t < B⟩) sts tu)
    (hi : X.N[i]? = some x := by rfl) (hk : X.env.scope.names.lookup x = some .local := by rfl) (hs : swapsWith (.List es cpos) (some (.Name x pos')) pos.line X.env = pure false := by rfl) :
    PBN X n0 (xs.map fun y => ⟨y, false, Pn⟩) (.Assign [.Name x pos'] (.List es cpos) pos :: sts) (tSeq (tAsg (tLstZ tl) (gName i)) tu) := by
  refine ⟨fun pins s σ H D I nz q => ?_⟩
  obtain ⟨h1, m, hm, hf⟩ := nz
  have hB : 1 ≤ s.toks := Nat.le_trans h0 h1
  have mo : Mono (xs.map fun y => (⟨y, false, fun _ t => 1 ≤ t ∧ t < s.toks⟩ : Fact)) := fun f hf n n' t _ h => by
    obtain ⟨y, _, rfl⟩ := List.mem_map.mp hf
    exact h
  have nz' : Nz X s.toks (xs.map fun y => (⟨y, false, fun _ t => 1 ≤ t ∧ t < s.toks⟩ : Fact)) s H := ⟨Nat.le_refl _, m, hm, fun f hf' => by
    obtain ⟨y, hy, rfl⟩ := List.mem_map.mp hf'
    exact ⟨(fun e => nomatch e), (hf ⟨y, false, Pn⟩ (List.mem_map.mpr ⟨y, hy, rfl⟩)).2⟩⟩
  have hν' : x ∉ names (xs.map fun y => (⟨y, false, fun _ t => 1 ≤ t ∧ t < s.toks⟩ : Fact)) := by
    simpa [names, List.map_map, Function.comp_def] using hν
  have z := z_lst (n0 := s.toks) (pos := pos) (cpos := cpos) (pos' := pos') (i := i) mo (fun n n' t l h => ⟨h.1, Nat.lt_of_lt_of_le h.2 l⟩) (ha s.toks hB) hN hν' hi hk hs
  refine wpAny_execs_cons (thk (z.run pins s σ H { D with nx := tu D } I nz' q) fun f s1 t1 ⟨ef, σ1, H1, I1, z1, q1⟩ => ?_)
  subst ef
  obtain ⟨_, m1, hm1, hf1⟩ := z1
  refine (rest s.toks s1.toks hB t1).run pins s1 σ1 H1 D I1 ⟨Nat.le_refl _, m1, hm1, fun f hf' => ?_⟩ q1
  rcases List.mem_cons.mp hf' with e | hf'
  · subst e
    exact ⟨(hf1 ⟨x, true, fun n t => s.toks ≤ t ∧ t < n⟩ List.mem_cons_self).1, (fun e => nomatch e)⟩
  · obtain ⟨y, hy, rfl⟩ := List.mem_map.mp hf'
    exact hf1 _ (List.mem_cons_of_mem _ (List.mem_map.mpr ⟨y, hy, rfl⟩))
end
structure FnZ (P : Program) (w : World) (K : PySem.W.Frag) (mg : Str → Option Value) (base : Heap) (f : Addr) (x : Str) (k : Nat) (ps : List Str) (n0 : Nat) (τ : List Fact) (F : List D → Option D) : Prop where
  g : mg x = some (.ref f)
  kp : PySem.W.keepIn K (.ref f) = true
  ar : ∀ ds d, F ds = some d → ds.length = ps.length
  run : ∀ (A : Around) (outer : List Env) (s : Shared) (H : Hp) (us : List Value) (vs : List V) (Q : VK) (E : XK), Room k A → Env0 P w K mg base A outer s H → Vals vs us → n0 ≤ s.toks → (∀ f ∈ τ, f.ok s.toks (argMap ps us) H) → spD K ps.length F vs H Q E →
    codeAny (model P w) A (.call (.ref f) ⟨us, []⟩) (L2.CR CX0 outer P w H s Q E) s
section
variable {P : Program} {w : World} {K : PySem.W.Frag} {mg : Str → Option Value} {base : Heap}
theorem spD_len {n : Nat} {F : List D → Option D} {vs : List V} {H : Hp} {Q : VK} {E : XK} (h : spD K n F vs H Q E) : vs.length = n := by
  obtain ⟨_, _, _, h1, _⟩ := h
  exact h1
/-- what a body of a meaning owes -/
theorem body_of {X : Cx} {N : List Str} {n : Nat} {m : MS} {t : TS} {vs : List V} {H : Hp} {Q : VK} {E : XK} (hm : SM X.K W0 t m) (h : spD X.K n (runF N n m) vs H Q E) : t { nx := fun _ H' => Q .non H', rt := Q } (L2.start N vs) H := by
  obtain ⟨G, ds, d, h1, e, r, h2, q⟩ := h
  unfold runF at h2
  split at h2
  · split at h2
    · rename_i d' hmm
      cases h2
      exact hm _ _ hmm G H G H _ _ (cfg_start e r) fun v G' H' wd rv => q v G' H' wd rv
    · rename_i ρ' hmm
      cases h2
      exact hm _ _ hmm G H G H _ _ (cfg_start e r) fun G' H' σ' _ c' => q .non G' H' c'.wd0 (.val _)
    · cases h2
  · cases h2
theorem runF_len {N : List Str} {n : Nat} {m : MS} {ds : List D} {d : D} (h : runF N n m ds = some d) : ds.length = n := by
  unfold runF at h
  split at h
  · assumption
  · cases h
theorem fnG_of {x qual : Str} {st : Stmt} {f : Addr} {fd : FuncData} {N ps : List Str} {k n : Nat} {m : MS} (F : Fun K x qual st f fd) (S : FnScope N ps (defScope st)) (hb : Binds K fd ps []) (hg : mg x = some (.ref f)) (hn : ps.length = n) (hloc : ∀ y ∈ ps, (defScope st).names.lookup y = some .local)
    (body : ∀ (cdv : Value) (A : Around) (outer : List Env) (s : Shared) (H : Hp) (E : XK), Room k (A.deeper (envOfC qual (defScope st) s.heap.objs.size f cdv)) →
      ∃ t, PBG (cxOf CX0 P w K mg base N qual (defScope st) f cdv A outer s H E).nox (defBody st) t ∧ SM K W0 t m) : FnG P w K mg base f x (k + 1) n (runF N n m) := by
  refine ⟨hg, F.kp, fun ds d h => runF_len h, fun A outer s H us vs Q E hr e0 r h1 h => ?_⟩
  have hl : vs.length = ps.length := (spD_len h).trans hn.symm
  have KX : K.In s.heap := e0.mod.kin.keeps fun b o e => (e0.bs b o e).1
  have hb' := hb s us KX (by rw [List.append_nil, ← r.length, hl])
  rw [List.append_nil] at hb'
  refine enter F S hloc hr e0 hb' r hl (fun _ _ _ e => nomatch e) fun cdv s1 hr1 ht I _ => ?_
  obtain ⟨t, hp, hm⟩ := body cdv A outer s H E hr1
  exact hp.run [] s1 _ H _ I (Nat.le_trans h1 ht) (body_of (X := cxOf CX0 P w K mg base N qual (defScope st) f cdv A outer s H E) hm h)
theorem fnZ_of {x qual : Str} {st : Stmt} {f : Addr} {fd : FuncData} {N ps : List Str} {k n0 : Nat} {τ : List Fact} {m : MS} (mo : Mono τ) (F : Fun K x qual st f fd) (S : FnScope N ps (defScope st)) (hb : Binds K fd ps []) (hg : mg x = some (.ref f)) (hloc : ∀ y ∈ ps, (defScope st).names.lookup y = some .local)
    (body : ∀ (cdv : Value) (A : Around) (outer : List Env) (s : Shared) (H : Hp) (E : XK), Room k (A.deeper (envOfC qual (defScope st) s.heap.objs.size f cdv)) →
      ∃ t, PBN (cxOf CX0 P w K mg base N qual (defScope st) f cdv A outer s H E).nox n0 τ (defBody st) t ∧ SM K W0 t m) : FnZ P w K mg base f x (k + 1) ps n0 τ (runF N ps.length m) := by
  refine ⟨hg, F.kp, fun ds d h => runF_len h, fun A outer s H us vs Q E hr e0 r h1 ha h => ?_⟩
  have hl : vs.length = ps.length := spD_len h
  have KX : K.In s.heap := e0.mod.kin.keeps fun b o e => (e0.bs b o e).1
  have hb' := hb s us KX (by rw [List.append_nil, ← r.length, hl])
  rw [List.append_nil] at hb'
  refine codeAny_mono (enter (G := fun _ _ => True) F S hloc hr e0 hb' r hl (fun _ => trivial) fun cdv s1 hr1 ht I hns => ?_) fun _ _ z => z.1
  obtain ⟨t, hp, hm⟩ := body cdv A outer s H E hr1
  refine thn (hp.run [] s1 _ H _ I ⟨Nat.le_trans h1 ht, _, hns, fun f hf => (ha f hf).keep (mo f hf) ht rfl Fz.refl⟩ (body_of (X := cxOf CX0 P w K mg base N qual (defScope st) f cdv A outer s H E) hm h)) fun _ _ z => ⟨z, fun _ _ => trivial⟩
/-- the law itself -/
theorem fnL_of {x qual : Str} {st : Stmt} {f : Addr} {fd : FuncData} {N ps : List Str} {k n0 : Nat} {m : MS} {sp : Sp} (F : Fun K x qual st f fd) (S : FnScope N ps (defScope st)) (hloc : ∀ y ∈ ps, (defScope st).names.lookup y = some .local) (len : ∀ vs H Q E, sp vs H Q E → vs.length = ps.length)
    (body : ∀ (cdv : Value) (A : Around) (outer : List Env) (s : Shared) (H : Hp) (vs : List V) (Q : VK) (E : XK), Room k (A.deeper (envOfC qual (defScope st) s.heap.objs.size f cdv)) → sp vs H Q E →
      ∃ t, PBN (cxOf CX0 P w K mg base N qual (defScope st) f cdv A outer s H E).nox 0 [] (defBody st) t ∧ t { nx := fun _ H' => Q .non H', rt := Q } (L2.start N vs) H) : FnOk P w K mg base CX0 (k + 1) f fd ps sp := by
  refine ⟨len, fun A outer s H args us vs Q E hr e0 hb r h => ?_⟩
  have hl := len _ _ _ _ h
  refine codeAny_mono (enter (G := fun _ _ => True) F S hloc hr e0 hb r hl (fun _ => trivial) fun cdv s1 hr1 ht I hns => ?_) fun _ _ z => z.1
  obtain ⟨t, hp, hq⟩ := body cdv A outer s H vs Q E hr1 h
  exact thn (hp.run [] s1 _ H _ I ⟨Nat.zero_le _, _, hns, fun f hf => absurd hf (by simp)⟩ hq) fun _ _ z => ⟨z, fun _ _ => trivial⟩
end
end DD

set_option Elab.async false
set_option linter.all false
set_option maxRecDepth 100000
set_option maxHeartbeats 4000000
/-! DD15: the K- and N-judgements with their meaning over data. -/
namespace DD
open PySem PySem.Spec PyProof.Rows L2 Evl

section
variable {X : Cx} {n0 : Nat} {τ : List Fact} {b : Expr} {tb : TE} {pos p q0 q1 : Pos} {x y0 y2 : Str}
theorem pen_texts {f : Addr} {F : List D → Option D} {k i0 i2 : Nat} {p0 p1 p2 : Str} {P0 P2 : Nat → Nat → Prop} (mo : Mono τ) (T : FnZ X.prog X.w X.K X.mg X.base f x k [p0, p1, p2] n0 [⟨p0, false, P0⟩, ⟨p2, true, P2⟩] F) (hr : Room k X.A) (hx : ⟨y0, false, P0⟩ ∈ τ) (hz : ⟨y2, true, P2⟩ ∈ τ) (hb : PEK X (names τ) b tb)
    (hg : Gl X x := by rfl) (hi0 : X.N[i0]? = some y0 := by rfl) (hk0 : X.env.scope.names.lookup y0 = some .local := by rfl) (hi2 : X.N[i2]? = some y2 := by rfl) (hk2 : X.env.scope.names.lookup y2 = some .local := by rfl)
    (hdb : (x == ("__debug__" : Str)) = false := by decide) (hd0 : (y0 == ("__debug__" : Str)) = false := by decide) (hd2 : (y2 == ("__debug__" : Str)) = false := by decide)
    (h0 : ∀ u0 u1 u2 : Value, argMap [p0, p1, p2] [u0, u1, u2] p0 = some u0 := by intro _ _ _; rfl) (h2 : ∀ u0 u1 u2 : Value, argMap [p0, p1, p2] [u0, u1, u2] p2 = some u2 := by intro _ _ _; rfl)
    (he : starEach [.Name y0 q0, b, .Name y2 q1] X.env = (false, eval (.Name y0 q0) X.env) :: starEach [b, .Name y2 q1] X.env := by rfl)
    (he2 : starEach [b, .Name y2 q1] X.env = [(false, eval b X.env), (false, eval (.Name y2 q1) X.env)] := by rfl) (hpl : (backTo pos (starEach [b, .Name y2 q1] X.env)).any (·.1) = false := by rfl) :
    PEN X n0 τ (.Call (.Name x p) [.Name y0 q0, b, .Name y2 q1] [] pos) (tCall (spD X.K 3 F) [] E0 (tCons (tVar i0) (tCons tb (tCons (tVar i2) tNil)))) := by
  refine ⟨fun pins s σ H Q I nz h => ?_⟩
  obtain ⟨v0, e0, h⟩ := h
  obtain ⟨hn, m, hm, hf⟩ := id nz
  obtain ⟨u0, r0, m0⟩ := raw_at I hm hi0 hk0 e0
  refine wpAny_Call_Name_kw (ld_glob I hg T.g ?_ hdb)
  refine PySem.W.callWith_K (h₀ := X.base) I.ok.mod.kin T.kp ?_ he hpl
  rw [he, he2]
  show wpAny _ _ (spliced ((false, eval (.Name y0 q0) X.env) :: (false, eval b X.env) :: (false, eval (.Name y2 q1) X.env) :: [])) _ _ s
  refine Calls.spliced_cons (raw_ld I hm hk0 m0 ?_ hd0)
  refine Calls.spliced_cons (thk (hb.run pins s σ H _ I h) fun u1 s1 t1 ⟨k1, v1, H1, f1, I1, r1, q1⟩ => ?_)
  obtain ⟨v2, e2, q1⟩ := q1
  have nz1 := nz.keep mo k1 t1 f1
  obtain ⟨hn1, m1, hm1, hf1⟩ := nz1
  obtain ⟨u2, r2, mu2⟩ := raw_at I1 hm1 hi2 hk2 e2
  refine Calls.spliced_cons (raw_ld I1 hm1 hk2 mu2 (Calls.spliced_nil ⟨I1.kIn, ?_⟩) hd2)
  have q : spD X.K 3 F ([v0, v1, v2] ++ []) H1 Q E0 := q1
  rw [List.append_nil] at q
  show wpAny (model X.prog X.w) X.A (call (.ref f) [u0, u1, u2]) (EK X (names τ) pins σ s H Q) X.xe s1
  refine wpAny_call (codeAny_mono (T.run X.A X.stack s1 H1 [u0, u1, u2] [v0, v1, v2] Q E0 hr I1.env0 (.cons r0 (.cons r1 (.cons r2 .nil))) hn1 (fun fc hfc => ?_) q) fun r s' hq => ?_)
  · rcases List.mem_cons.mp hfc with e | hfc
    · subst e
      refine ⟨(fun e => nomatch e), fun _ z t e => ?_⟩
      rw [h0] at e
      cases e
      exact mo _ hx _ _ t t1 ((hf _ hx).2 rfl z t m0)
    · rw [List.mem_singleton] at hfc
      subst hfc
      refine ⟨fun _ => ?_, (fun e => nomatch e)⟩
      obtain ⟨u', mu', g'⟩ := (hf1 _ hz).1 rfl
      have mu'' : m1 y2 = some u' := mu'
      rw [mu2] at mu''
      cases mu''
      exact ⟨u2, h2 _ _ _, g'⟩
  · cases r with
    | error e => exact pass0 pins σ H1 s1 e s' I1 hq
    | ok fl =>
      cases fl with
      | ret u => exact EK.from k1 f1 (Inv.afterK I1 hq)
      | next => exact False.elim hq
      | brk => exact False.elim hq
      | cont => exact False.elim hq
end

/-! ### meanings -/
section
variable {K : PySem.W.Frag} {te : TE} {me : ME} {tl : TA} {ml : MA}
def addK : D → D → Option D
  | .val (.int i), .val (.int j) => some (.int (i + j))
  | .val (.str x), .val (.str y) => if x.length + y.length ≤ big then some (.str (x ++ y)) else none
  | .lst xs, .lst ys => if xs.length + ys.length ≤ big then some (.lst (xs ++ ys)) else none
  | _, _ => none
theorem r2_addK : R2M K (rAddK K) addK := fun x y a b d G H e ra rb h Q q => by
  unfold addK at h
  split at h
  · cases h
    cases rp_val ra
    cases rp_val rb
    exact .inl ⟨_, _, rfl, rfl, q _ G H (Wd.refl e) (.val _)⟩
  · split at h
    · cases h
      cases rp_val ra
      cases rp_val rb
      exact .inr (.inl ⟨_, _, rfl, rfl, big_line (by assumption), q _ G H (Wd.refl e) (.val _)⟩)
    · cases h
  · split at h
    · cases h
      obtain ⟨p, vs, rfl, h1, r1⟩ := rp_lst ra
      obtain ⟨p2, ws, rfl, h2, r2⟩ := rp_lst rb
      refine .inr (.inr ⟨p, p2, vs, ws, rfl, rfl, ex_l e h1, ex_l e h2, ?_, new_lst e (r1.append r2) q⟩)
      rw [r1.length, r2.length]
      exact big_line (by assumption)
    · cases h
  · cases h
def catSD : D → D → Option D
  | .val (.str x), .val (.str y) => if x.length + y.length ≤ big then some (.str (x ++ y)) else none
  | _, _ => none
theorem r2_catS : R2M K rCatS catSD := fun x y a b d G H e ra rb h Q q => by
  unfold catSD at h
  split at h
  · split at h
    · cases h
      cases rp_val ra
      cases rp_val rb
      exact ⟨_, _, rfl, rfl, big_line (by assumption), q _ G H (Wd.refl e) (.val _)⟩
    · cases h
  · cases h
def ixLD : D → D → Option D
  | .lst ds, .val (.int i) => atI ds i
  | _, _ => none
theorem r2_ixL : R2M K (rIxL K) ixLD := fun x y a b d G H e ra rb h Q q => by
  unfold ixLD at h
  split at h
  · obtain ⟨p, vs, rfl, h1, r1⟩ := rp_lst ra
    cases rp_val rb
    obtain ⟨v, h2, h3⟩ := at_rps r1 h
    exact ⟨p, vs, _, v, rfl, rfl, ex_l e h1, h2, q v G H (Wd.refl e) h3⟩
  · cases h
def slKD : D → Option Int → Option Int → Option D
  | .lst ds, lo, hi => some (.lst (cutD ds lo hi))
  | .val (.str z), lo, hi => if z.length ≤ big then some (.str (cutS z lo hi)) else none
  | _, _, _ => none
theorem rs_slK : RSM K (rSlK K) slKD := fun x a lo hi d G H e ra h Q q => by
  unfold slKD at h
  split at h
  · cases h
    obtain ⟨p, vs, rfl, h1, r1⟩ := rp_lst ra
    exact .inl ⟨p, vs, rfl, ex_l e h1, new_lst e (cut_rps lo hi r1) q⟩
  · split at h
    · cases h
      cases rp_val ra
      exact .inr ⟨_, rfl, big_line (by assumption), q _ G H (Wd.refl e) (.val _)⟩
    · cases h
  · cases h
def lenKD : List D → Option D
  | [.val (.str z)] => if z.length ≤ big then some (.int z.length) else none
  | [.lst ds] => some (.int ds.length)
  | _ => none
theorem rc_lenK : RCM K (rLenK K) lenKD := fun xs as d G H e r h Q q => by
  unfold lenKD at h
  split at h
  · split at h
    · cases h
      obtain ⟨v, rfl, r0⟩ := rps_one r
      cases rp_val r0
      exact .inl ⟨_, rfl, big_line (by assumption), q _ G H (Wd.refl e) (.val _)⟩
    · cases h
  · cases h
    obtain ⟨v, rfl, r0⟩ := rps_one r
    obtain ⟨p, vs, rfl, h1, r1⟩ := rp_lst r0
    refine .inr ⟨p, vs, rfl, ex_l e h1, ?_⟩
    rw [r1.length]
    exact q _ G H (Wd.refl e) (.val _)
  · cases h
def listKD : List D → Option D
  | [.lst ds] => some (.lst ds)
  | _ => none
theorem rc_listK : RCM K (fun xs H Q => ∃ p ys, xs = [.ref p] ∧ SqL K H p ys ∧ ∀ l, H l = none → Q (.ref l) (upd H l (.lst ys))) listKD := fun xs as d G H e r h Q q => by
  unfold listKD at h
  split at h
  · cases h
    obtain ⟨v, rfl, r0⟩ := rps_one r
    obtain ⟨p, vs, rfl, h1, r1⟩ := rp_lst r0
    exact ⟨p, vs, rfl, ex_l e h1, new_lst e r1 q⟩
  · cases h
def neKD (a b : D) : Option D := (deepD a b).map fun k => .bl (!k)
theorem r2_neK : R2M K (rNeD K) neKD := fun x y a b d G H e ra rb h Q q => by
  obtain ⟨k, hk, rfl⟩ := Option.map_eq_some_iff.mp h
  unfold deepD at hk
  obtain ⟨p, e1, hk⟩ := Option.bind_eq_some_iff.mp hk
  obtain ⟨p2, e2, hk⟩ := Option.bind_eq_some_iff.mp hk
  split at hk
  · rename_i hs
    cases hk
    obtain ⟨s1, s2⟩ := Bool.and_eq_true_iff.mp hs
    exact ⟨p, p2, dp_ex e _ (dp_of a ra e1), dp_ex e _ (dp_of b rb e2), s1, s2, q _ G H (Wd.refl e) (.val _)⟩
  · cases hk
theorem rm_joinK : RMM K "str" (rJoinK K) joinD := fun x xs a as d h => by
  unfold joinD at h
  split at h
  · obtain ⟨ys, h1, h⟩ := Option.bind_eq_some_iff.mp h
    split at h
    · rename_i hb
      cases h
      refine ⟨fun G H e ra => by cases rp_val ra; exact rfl, fun G H e ra r Q q => ?_⟩
      cases rp_val ra
      obtain ⟨v, rfl, r0⟩ := rps_one r
      obtain ⟨p, vs, rfl, h2, r1⟩ := rp_lst r0
      rw [strsD_strs h1] at r1
      rw [Rps.of_vals r1] at h2
      exact ⟨_, p, ys, rfl, rfl, ex_l e h2, hb, q _ G H (Wd.refl e) (.val _)⟩
    · cases h
  · cases h
def repD : D → List D → Option D
  | .val (.str a), [.val (.str b), .val (.str c), .val (.int 1)] => if a.length + c.length ≤ big then some (.str (Txt.replace1 a b c)) else none
  | _, _ => none
theorem rm_rep : RMM K "str" rRep1 repD := fun x xs a as d h => by
  unfold repD at h
  split at h
  · split at h
    · rename_i hb
      cases h
      refine ⟨fun G H e ra => by cases rp_val ra; exact rfl, fun G H e ra r Q q => ?_⟩
      cases rp_val ra
      cases r with
      | cons r1 r =>
        obtain ⟨v, v2, rfl, r2, r3⟩ := rps_two r
        cases rp_val r1
        cases rp_val r2
        cases rp_val r3
        exact ⟨_, _, _, rfl, rfl, hb, q _ G H (Wd.refl e) (.val _)⟩
    · cases h
  · cases h
theorem new_frz {Q : VK} {d : List D} {vs : List V} {G H : Hp} (e : Ex G H) (r : Rps K G vs d) (q : ∀ v G' H', Wd G H G' H' → Rp K G' v (.lst d) → Q v H') : ∀ p o, H p = none → Q (.ref p) (upd H p (.frz o (.lst vs))) := fun p o hp => by
  have w := Wd.new (o := .frz o (.lst vs)) e hp
  exact q _ _ _ w (.lst (.inl (.inr ⟨o, upd_same⟩)) (r.mono w.g))
theorem rm_splitZ : RMM K "str" rSplitZ splitD := fun x xs a as d h => by
  unfold splitD at h
  split at h
  · split at h
    · rename_i hb
      cases h
      refine ⟨fun G H e ra => by cases rp_val ra; exact rfl, fun G H e ra r Q q => ?_⟩
      cases rp_val ra
      obtain ⟨v, rfl, r0⟩ := rps_one r
      cases rp_val r0
      refine ⟨_, _, rfl, rfl, hb.1, big_line hb.2, new_frz e ?_ q⟩
      exact rps_strs _
    · cases h
  · cases h
theorem em_lstZ (h : AM K tl ml) : EM K (tLstZ tl) (mLst (few ml)) := fun ρ d e G0 H0 G H σ c Q q => by
  obtain ⟨ds, e1, rfl⟩ := Option.map_eq_some_iff.mp e
  obtain ⟨e1, hz⟩ := few_le e1
  refine h ρ ds e1 G0 H0 G H σ c _ fun vs G1 H1 w r => ⟨by rw [r.length]; exact hz, ?_⟩
  exact new_frz w.s r fun v G2 H2 w2 r2 => q v G2 H2 (w.trans w2) r2
def mItemsK (m : ME) : MA := fun ρ => (m ρ).bind fun d => match d with
  | .lst ds => some ds
  | .tup ds => some ds
  | _ => none
theorem im_seqK (h : EM K te me) : IM K (iSeqK K te) (mItemsK me) := fun ρ ds e G0 H0 G H σ c R q => by
  obtain ⟨d, e1, e⟩ := Option.bind_eq_some_iff.mp e
  have h1 := h ρ d e1
  split at e
  · cases e
    exact .inl (ev_list h1 G0 H0 G H σ c R q)
  · cases e
    exact .inr (ev_tup h1 G0 H0 G H σ c R q)
  · cases e
def mItemsL (m : ME) : MA := fun ρ => (m ρ).bind fun d => match d with
  | .lst ds => some ds
  | _ => none
theorem im_listK (h : EM K te me) : IM K (iList K te) (mItemsL me) := fun ρ ds e G0 H0 G H σ c R q => by
  obtain ⟨d, e1, e⟩ := Option.bind_eq_some_iff.mp e
  have h1 := h ρ d e1
  split at e
  · cases e
    exact ev_list h1 G0 H0 G H σ c R q
  · cases e
theorem em_lcZ {wi : TI} {mi : MA} {g : TG} {js vs : List Nat} {f : D → DEnv → Option DEnv} (hi : IM K wi mi) (hg : GM K g js f) (hj : ∀ j ∈ js, j ∈ vs) (he : EM K te me) : EM K (tLcZ wi g te vs) (mLst (mLc mi f mYes me vs)) := fun ρ d0 e0 G0 H0 G H σ c Q q => by
  obtain ⟨ys, e, rfl⟩ := Option.map_eq_some_iff.mp e0
  obtain ⟨ds, e1, e⟩ := Option.bind_eq_some_iff.mp e
  split at e
  case isFalse => cases e
  rename_i hz
  refine hi ρ ds e1 G0 H0 G H σ c _ fun J G1 H1 w ⟨Gs, Y, wk, hgs, hy⟩ Dl hD => ?_
  have c1 := c.mono w
  refine ⟨fun i m H' => m = ds.length - i ∧ i ≤ ds.length ∧ ∃ G' accV accD rest od, Wd G1 H1 G' H' ∧ G' Dl = none ∧ H' Dl = some (.frz od (.lst accV)) ∧ Rps K G' accV accD ∧ lcL f mYes me (wipeD ρ vs) (ds.drop i) = some rest ∧ accD ++ rest = ys ∧ accD.length ≤ i,
    ⟨ds.length, fun od => ⟨rfl, Nat.zero_le _, G1, [], [], ys, od, Wd.newH c1.sub hD, fresh_back c1.sub hD, upd_same, .nil, e, rfl, Nat.zero_le _⟩⟩, ?_⟩
  rintro i m H' ⟨rfl, hil, G', accV, accD, rest, od, w', gD, hDl, ra, hr, hyy, hai⟩
  have gs : Gs H' := hgs H' (w'.g.trans w'.s)
  by_cases hlt : i < ds.length
  · refine .inr ⟨wk.goes i H' hlt gs, fun H'' => i + 1 ≤ ds.length ∧ ∃ G' accV accD rest od, Wd G1 H1 G' H'' ∧ G' Dl = none ∧ H'' Dl = some (.frz od (.lst accV)) ∧ Rps K G' accV accD ∧ lcL f mYes me (wipeD ρ vs) (ds.drop (i + 1)) = some rest ∧ accD ++ rest = ys ∧ accD.length ≤ i + 1,
      fun H'' z => ⟨ds.length - (i + 1), by omega, rfl, z.1, z.2⟩, fun x H2 yy => ?_⟩
    obtain ⟨d, G2, hd, w2, rx⟩ := hy i G' H' x H2 hlt w'.g w'.s (wk.yields i H' x H2 hlt gs yy)
    have hdrop : ds.drop i = d :: ds.drop (i + 1) := by
      obtain ⟨h1, h2⟩ := List.getElem?_eq_some_iff.mp hd
      rw [List.drop_eq_getElem_cons h1, h2]
    rw [hdrop] at hr
    obtain ⟨ρ1, hs, hr⟩ := Option.bind_eq_some_iff.mp hr
    obtain ⟨b, hbt, hr⟩ := Option.bind_eq_some_iff.mp hr
    cases hbt
    rw [if_pos rfl] at hr
    obtain ⟨yv, hel, hr⟩ := Option.bind_eq_some_iff.mp hr
    obtain ⟨rest', hr2, rfl⟩ := Option.map_eq_some_iff.mp hr
    have w12 := w'.trans w2
    refine hg d _ ρ1 hs G0 H0 G2 H2 _ x ((c1.mono w12).wipe vs) rx _ fun σ2 c2 hw => ⟨(hw vs hj).trans (wipe_wipe vs vs fun _ h => h), ?_⟩
    have g2 : G2 Dl = none := w2.c Dl (by rw [hDl]; exact Option.some_ne_none _) gD
    have d2 : H2 Dl = some (.frz od (.lst accV)) := w2.h Dl _ hDl
    refine he ρ1 yv hel G0 H0 G2 H2 σ2 c2 _ fun v G4 H4 w4 rv => ?_
    have d4 := w4.h Dl _ d2
    have g4 : G4 Dl = none := w4.c Dl (by rw [d2]; exact Option.some_ne_none _) g2
    have w14 := w12.trans w4
    refine ⟨accV, od, d4, ?_, fun od' => ⟨hlt, G4, accV ++ [v], accD ++ [yv], rest', od', ⟨w14.g, Ex.mut w14.h hD, fun a u z => ?_, w14.c⟩, g4, upd_same, (ra.mono (w2.g.trans w4.g)).append (.cons rv .nil), hr2, by rw [List.append_assoc]; exact hyy, ?_⟩⟩
    · rw [ra.length, sizeLine_eq]
      omega
    · have na : a ≠ Dl := fun y => by rw [y, g4] at z; cases z
      rw [upd_ne na]
      exact w4.s a u z
    · rw [List.length_append]
      simp only [List.length_cons, List.length_nil]
      omega
  · have ei : i = ds.length := by omega
    subst ei
    refine .inl ⟨wk.stops H' gs, ?_⟩
    rw [List.drop_length] at hr
    cases hr
    rw [List.append_nil] at hyy
    subst hyy
    have wl := w.trans w'
    refine q (.ref Dl) (upd G' Dl (.frz od (.lst accV))) H' ⟨wl.g.trans (Ex.new gD), wl.h, fun a u z => ?_, fun a ha ga => ?_⟩ (.lst (.inl (.inr ⟨od, upd_same⟩)) (ra.mono (Ex.new gD)))
    · by_cases y : a = Dl
      · subst y
        rw [upd_same] at z
        rw [← z]
        exact hDl
      · rw [upd_ne y] at z
        exact wl.s a u z
    · by_cases y : a = Dl
      · subst y
        exact absurd (fresh_back w.h hD) ha
      · rw [upd_ne y]
        exact wl.c a ha ga
end
end DD

set_option Elab.async false
set_option linter.all false
set_option maxRecDepth 100000
set_option maxHeartbeats 4000000
/-! DD16: K- and N-judgements paired with their meaning. -/
namespace DD
open PySem PySem.Spec PyProof.Rows L2 Evl

structure JKE (X : Cx) (ν : List Str) (e : Expr) (t : TE) (m : ME) : Prop where
  p : PEK X ν e t
  m : EM X.K t m
structure JKT (X : Cx) (ν : List Str) (e : Expr) (t : TT) (m : MT) : Prop where
  p : PTK X ν e t
  m : TM X.K t m
structure JKW (X : Cx) (ν : List Str) (e : Expr) (t : TT) (m : MT) : Prop where
  p : PWK X ν e t
  m : TM X.K t m
structure JKA (X : Cx) (ν : List Str) (es : List Expr) (t : TA) (m : MA) : Prop where
  p : PAK X ν es t
  m : AM X.K t m
structure JKO (X : Cx) (ν : List Str) (e : Option Expr) (t : TO) (m : MO) : Prop where
  p : POK X ν e t
  m : OM X.K t m
structure JKI (X : Cx) (ν : List Str) (tg it : Expr) (w : TI) (m : MA) : Prop where
  p : PIK X ν tg it w
  m : IM X.K w m
structure JKG (X : Cx) (ν : List Str) (tg : Expr) (g : TG) (js : List Nat) (f : D → DEnv → Option DEnv) : Prop where
  p : PGK X ν tg g
  m : GM X.K g js f
structure JKS (X : Cx) (ν : List Str) (W : WX) (s : Stmt) (t : TS) (m : MS) : Prop where
  p : PSK X ν s t
  m : SM X.K W t m
structure JKB (X : Cx) (ν : List Str) (W : WX) (s : List Stmt) (t : TS) (m : MS) : Prop where
  p : PSsK X ν s t
  m : SM X.K W t m
structure JNE (X : Cx) (n0 : Nat) (τ : List Fact) (e : Expr) (t : TE) (m : ME) : Prop where
  p : PEN X n0 τ e t
  m : EM X.K t m
structure JNA (X : Cx) (n0 : Nat) (τ : List Fact) (es : List Expr) (t : TA) (m : MA) : Prop where
  p : PAN X n0 τ es t
  m : AM X.K t m
structure JNR (X : Cx) (n0 : Nat) (τ : List Fact) (es : List Expr) (t : TA) (m : MA) : Prop where
  p : PRN X n0 τ es t
  m : AM X.K t m
structure JZA (X : Cx) (n0 : Nat) (τ : List Fact) (es : List Expr) (P : Nat → Nat → Prop) (t : TA) (m : MA) : Prop where
  p : PAZ X n0 τ es P t
  m : AM X.K t m
structure JNI (X : Cx) (n0 : Nat) (τ : List Fact) (tg it : Expr) (w : TI) (m : MA) : Prop where
  p : PIN X n0 τ tg it w
  m : IM X.K w m
structure JNS (X : Cx) (n0 : Nat) (τ : List Fact) (W : WX) (s : Stmt) (t : TS) (m : MS) : Prop where
  p : PSN X n0 τ s t
  m : SM X.K W t m
structure JNB (X : Cx) (n0 : Nat) (τ : List Fact) (W : WX) (s : List Stmt) (t : TS) (m : MS) : Prop where
  p : PSsN X n0 τ s t
  m : SM X.K W t m
structure JZS (X : Cx) (n0 : Nat) (τ τ' : List Fact) (W : WX) (s : Stmt) (t : TS) (m : MS) : Prop where
  p : PSZ X n0 τ τ' s t
  m : SM X.K W t m
structure JPB (X : Cx) (n0 : Nat) (τ : List Fact) (W : WX) (s : List Stmt) (t : TS) (m : MS) : Prop where
  p : PBN X n0 τ s t
  m : SM X.K W t m
structure JEG (X : Cx) (ν : List Str) (e : Expr) (t : TE) (m : ME) : Prop where
  p : PEG X ν e t
  m : EM X.K t m
structure JEH (X : Cx) (e : Expr) (t : TE) (m : ME) : Prop where
  p : PEH X e t
  m : EM X.K t m
structure JGB (X : Cx) (W : WX) (s : List Stmt) (t : TS) (m : MS) : Prop where
  p : PBG X s t
  m : SM X.K W t m

section
variable {X : Cx} {ν : List Str} {W : WX} {a b c e o : Expr} {es : List Expr} {ta tb tc te : TE} {ma mb mc me : ME} {tt tu : TT} {mt mu : MT} {tl : TA} {ml : MA} {pos p2 p3 : Pos} {k j : Nat} {x : Str}
theorem k_var (i : Nat) {x : Str} {pos : Pos} (hN : X.N[i]? = some x := by rfl) (hv : Vis X.env.scope x := by first | exact Or.inl rfl | exact Or.inr (Or.inl rfl) | exact Or.inr (Or.inr rfl)) (hd : (x == ("__debug__" : Str)) = false := by decide)
    (hcd : (x == ("__classdict__" : Str)) = false := by decide) : JKE X ν (.Name x pos) (tVar i) (mVar i) := ⟨pek_var hN hv hd hcd, em_var⟩
theorem k_int {i : Int} {j : Nat} : JKE X ν (.Constant (.int i) j pos) (tC (.int i)) (mC (.int i)) := ⟨pek_int, em_c⟩
theorem k_str {z : Str} {j : Nat} : JKE X ν (.Constant (.str z) j pos) (tC (.str z)) (mC (.str z)) := ⟨pek_str, em_c⟩
theorem k_bl {z : Bool} {j : Nat} : JKE X ν (.Constant (.bool z) j pos) (tC (.bl z)) (mC (.bl z)) := ⟨pek_bl, em_c⟩
theorem k_non {j : Nat} : JKE X ν (.Constant .none j pos) (tC .non) (mC .non) := ⟨pek_non, em_c⟩
theorem k_glob {v : V} (h : ∃ u, X.mg x = some u ∧ RelV v u) (hg : Gl X x := by rfl) (hd : (x == ("__debug__" : Str)) = false := by decide) : JKE X ν (.Name x pos) (tC v) (mC v) := by
  obtain ⟨u, h1, h2⟩ := h
  exact ⟨pek_glob hg h1 h2 hd, em_c⟩
/-- a built-in type by its name, as a value -/
theorem k_ty {T : String} (hm : X.mg x = none) (hv : bootBuiltins x = some (.type T) := by decide +kernel) (hg : Gl X x := by rfl) (hn : x ≠ "__name__" := by decide) (hd : (x == ("__debug__" : Str)) = false := by decide) : JKE X ν (.Name x pos) (tC (.ty T)) (mC (.ty T)) :=
  ⟨pek_bltn hg hm hv rfl hn hd, em_c⟩
theorem k_add (ha : JKE X ν a ta ma) (hb : JKE X ν b tb mb) {K : PySem.W.Frag} (hK : X.K = K := by rfl) : JKE X ν (.BinOp a .Add b pos) (tOp (rAddK K) ta tb) (mOp addK ma mb) := by
  subst hK
  exact ⟨pek_op opk_add ha.p hb.p, em_op r2_addK ha.m hb.m⟩
theorem k_sub (ha : JKE X ν a ta ma) (hb : JKE X ν b tb mb) : JKE X ν (.BinOp a .Sub b pos) (tOp (rI0 fun i j => .int (i - j)) ta tb) (mOp subD ma mb) := ⟨pek_op opk_sub ha.p hb.p, em_op r2_sub ha.m hb.m⟩
theorem k_mul (ha : JKE X ν a ta ma) (hb : JKE X ν b tb mb) : JKE X ν (.BinOp a .Mult b pos) (tOp (rI CMul fun i j => .int (i * j)) ta tb) (mOp mulD ma mb) := ⟨pek_op opk_mul ha.p hb.p, em_op r2_mul ha.m hb.m⟩
theorem k_mod (ha : JKE X ν a ta ma) (hb : JKE X ν b tb mb) : JKE X ν (.BinOp a .Mod b pos) (tOp (rI (fun _ j => 0 < j) fun i j => .int (i % j)) ta tb) (mOp modD ma mb) := ⟨pek_op opk_mod ha.p hb.p, em_op r2_mod ha.m hb.m⟩
theorem k_neg (ha : JKE X ν a ta ma) : JKE X ν (.UnaryOp .USub a pos) (tUn (rU fun i => .int (-i)) ta) (mUn negD ma) := by
  refine ⟨⟨fun pins s σ H Q I h => UnaryOp_ (thn (ha.p.run pins s σ H _ I h) fun v s1 ⟨k1, x, H1, f1, I1, r1, q1⟩ => ?_)⟩, em_un r1_neg ha.m⟩
  obtain ⟨i, rfl, q⟩ := q1
  obtain ⟨t, rfl⟩ := r1
  exact neg_int (EK.from k1 f1 (ev_tok I1 (x := .int (-i)) ⟨_, rfl⟩ q).k)
theorem kt_ne (hr : Room j X.A) (ha : JKE X ν a ta ma) (hb : JKE X ν b tb mb) (hm : behindInMarks .NotEq b = false := by first | exact nomark _ | rfl) {K : PySem.W.Frag} (hK : X.K = K := by rfl) : JKT X ν (.Compare a [.NotEq] [b] pos) (tTest (tOp (rNeD K) ta tb)) (mTest (mOp neKD ma mb)) := by
  subst hK
  exact ⟨ptk_cmp (opk_ne hr.units) ha.p hb.p hm, tm_test (em_op r2_neK ha.m hb.m)⟩
theorem k_ix (ha : JKE X ν a ta ma) (hb : JKE X ν b tb mb) (hs : PlainIx b := by exact fun _ _ => rfl) {K : PySem.W.Frag} (hK : X.K = K := by rfl) : JKE X ν (.Subscript a b pos) (tOp (rIxL K) ta tb) (mOp ixLD ma mb) := by
  subst hK
  exact ⟨pek_ix ixk_list ha.p hb.p hs, em_op r2_ixL ha.m hb.m⟩
theorem ko_none : JKO X ν none tNoPart mNoPart := ⟨pok_none, om_none⟩
theorem ko_some (h : JKE X ν e te me) : JKO X ν (some e) (tPart te) (mPart me) := ⟨pok_some h.p, om_some h.m⟩
theorem k_sl {lo hi : Option Expr} {to th : TO} {mo mh : MO} (he : JKE X ν e te me) (hl : JKO X ν lo to mo) (hu : JKO X ν hi th mh) {K : PySem.W.Frag} (hK : X.K = K := by rfl) : JKE X ν (.Subscript e (.Slice lo hi none p2) pos) (tSl (rSlK K) te to th) (mSl slKD me mo mh) := by
  subst hK
  exact ⟨pek_sl slk_any he.p hl.p hu.p, em_sl rs_slK he.m hl.m hu.m⟩
theorem k_rev {q1 q2 q3 : Pos} (he : JKE X ν e te me) {K : PySem.W.Frag} (hK : X.K = K := by rfl) : JKE X ν (.Subscript e (.Slice none none (some (.UnaryOp .USub (.Constant (.int 1) k q1) q2)) q3) pos) (tRevL K te) (mRev me) := by
  subst hK
  exact ⟨pek_rev he.p, em_rev he.m⟩
theorem ka_nil : JKA X ν [] tNil mNil := ⟨pak_nil, am_nil⟩
theorem ka_cons (h : JKE X ν e te me) (hr : JKA X ν es tl ml) (hs : starEach (e :: es) X.env = (false, eval e X.env) :: starEach es X.env := by rfl) : JKA X ν (e :: es) (tCons te tl) (mCons me ml) := ⟨pak_cons h.p hr.p hs, am_cons h.m hr.m⟩
theorem k_lst (h : JKA X ν es tl ml) : JKE X ν (.List es pos) (tLst tl) (mLst (few ml)) := ⟨pek_lst h.p, em_fresh (fm_lst h.m)⟩
theorem k_len (hm : X.mg "len" = none) (ha : JKE X ν e te me) (hg : Gl X "len" := by rfl) (he : starEach [e] X.env = (false, eval e X.env) :: starEach [] X.env := by rfl) (hpl : (backTo pos (starEach [] X.env)).any (·.1) = false := by rfl) {K : PySem.W.Frag} (hK : X.K = K := by rfl) :
    JKE X ν (.Call (.Name "len" p2) [e] [] pos) (tCB (rLenK K) (tCons te tNil)) (mCall lenKD (mCons me mNil)) := by
  subst hK
  exact ⟨pek_callB callk_len hg hm (by decide +kernel) (pak_cons ha.p pak_nil he) (by decide) (by decide) he hpl, em_cb rc_lenK (am_cons ha.m am_nil)⟩
theorem k_list (hm : X.mg "list" = none) (ha : JKE X ν e te me) (hg : Gl X "list" := by rfl) (he : starEach [e] X.env = (false, eval e X.env) :: starEach [] X.env := by rfl) (hpl : (backTo pos (starEach [] X.env)).any (·.1) = false := by rfl) {K : PySem.W.Frag} (hK : X.K = K := by rfl) :
    JKE X ν (.Call (.Name "list" p2) [e] [] pos) (tCB (fun xs H Q => ∃ p ys, xs = [.ref p] ∧ SqL K H p ys ∧ ∀ l, H l = none → Q (.ref l) (upd H l (.lst ys))) (tCons te tNil)) (mCall listKD (mCons me mNil)) := by
  subst hK
  exact ⟨pek_callTy callk_list hg hm (by decide +kernel) (pak_cons ha.p pak_nil he) (by decide) (by decide) he hpl, em_cb rc_listK (am_cons ha.m am_nil)⟩
/-- isinstance(x, T) of a value that is a tuple of data, T tuple -/
def isTupD : List D → Option D
  | [.tup _, .val (.ty "tuple")] => some (.bl true)
  | _ => none
theorem rc_isTup {K : PySem.W.Frag} : RCM K (rIsi K) isTupD := fun xs as d G H e r h Q q => by
  unfold isTupD at h
  split at h
  · cases h
    obtain ⟨v, v2, rfl, r0, r1⟩ := rps_two r
    cases rp_val r1
    obtain ⟨p, vs, rfl, h1, r2⟩ := rp_tup r0
    refine ⟨.ref p, .ty "tuple", .type "tuple", .type "tuple", true, rfl, .ty _, ?_, kit_ty (a := "tuple") (b := "tuple") (by decide +kernel), q _ G H (Wd.refl e) (.val _)⟩
    rcases ex_t e h1 with h2 | h2
    · rcases h2 with h2 | ⟨o, h2⟩
      · exact .base (.tup h2)
      · exact .fTuple h2
    · obtain ⟨o, its, n, h3, h4, _⟩ := h2
      exact .kTuple h3 h4
  · cases h
theorem k_isTup (hm : X.mg "isinstance" = none) (ha : JKA X ν (e :: es) tl ml) (hg : Gl X "isinstance" := by rfl) (he : starEach (e :: es) X.env = (false, eval e X.env) :: starEach es X.env := by rfl) (hpl : (backTo pos (starEach es X.env)).any (·.1) = false := by rfl) {K : PySem.W.Frag} (hK : X.K = K := by rfl) :
    JKE X ν (.Call (.Name "isinstance" p2) (e :: es) [] pos) (tCB (rIsi K) tl) (mCall isTupD ml) := by
  subst hK
  exact ⟨pek_callB callk_isi hg hm (by decide +kernel) ha.p (by decide) (by decide) he hpl, em_cb rc_isTup ha.m⟩
theorem k_join {apos : Pos} (ho : JKE X ν o ta ma) (ha : JKA X ν (e :: es) tl ml) (hbase : attributeBase o "join" X.env (eval o X.env) = eval o X.env := by rfl)
    (hfew : ((backTo pos (starEach (e :: es) X.env)).all (fun x => !x.1) && (backToKw pos (keywordEach [] X.env)).all (fun x => x.1.isSome)
      && decide ((e :: es).length + ([] : List Keyword).length + (if ([] : List Keyword).isEmpty then 0 else 1) < 30)) = true := by rfl)
    (hline : (apos.endLine == pos.line) = true := by rfl) (hs : starEach (e :: es) X.env = (false, eval e X.env) :: starEach es X.env := by rfl) (hplain : (backTo pos (starEach es X.env)).any (·.1) = false := by rfl) {K : PySem.W.Frag} (hK : X.K = K := by rfl) :
    JKE X ν (.Call (.Attribute o "join" apos) (e :: es) [] pos) (tBM K "str" (rJoinK K) ta tl) (mMeth joinD ma ml) := by
  subst hK
  exact ⟨pek_bm PySem.F.plainAttrs_str PySem.F.slot_str_join PySem.F.type_str_join mtk_join ho.p ha.p hbase hfew hline hs hplain, em_bm rm_joinK ho.m ha.m⟩
theorem em_call {n : Nat} {F : List D → Option D} (ar : ∀ ds d, F ds = some d → ds.length = n) (h : AM X.K tl ml) : EM X.K (tCall (spD X.K n F) [] E0 tl) (mCall F ml) := fun ρ d q G0 H0 G H σ c Q z => by
  obtain ⟨ds, e1, q⟩ := Option.bind_eq_some_iff.mp q
  refine h ρ ds e1 G0 H0 G H σ c _ fun vs G1 H1 w1 r1 => ⟨G1, ds, d, ?_, w1.s, by rw [List.append_nil]; exact r1, q, fun v G2 H2 w2 r2 => z v G2 H2 (w1.trans w2) r2⟩
  rw [List.append_nil, r1.length]
  exact ar ds d q
theorem k_call {f : Addr} {k j n : Nat} {F : List D → Option D} (T : FnD X.prog X.w X.K X.mg X.base f x k n F) (hr : Room j X.A) (ha : JKA X ν (e :: es) tl ml) (hk : k ≤ j := by decide) (hg : Gl X x := by rfl) (hdb : (x == ("__debug__" : Str)) = false := by decide)
    (he : starEach (e :: es) X.env = (false, eval e X.env) :: starEach es X.env := by rfl) (hpl : (backTo pos (starEach es X.env)).any (·.1) = false := by rfl) {K : PySem.W.Frag} (hK : X.K = K := by rfl) :
    JKE X ν (.Call (.Name x p2) (e :: es) [] pos) (tCall (spD K n F) [] E0 tl) (mCall F ml) := by
  subst hK
  obtain ⟨fd, ps, hb, ok⟩ := T.ok
  exact ⟨pek_call ok (hr.mono hk) hg T.g T.kp hb .nil pass0 ha.p hdb he hpl, em_call T.ar ha.m⟩
theorem kt_val (h : JKE X ν e te me) (he : ∀ whole, isTrue e X.env whole = (do let v ← whole; standAt e.pos; holding [v] (truthy v)) := by intro _; rfl) : JKT X ν e (tB te) (mTest me) := ⟨ptk_val h.p he, tm_B h.m⟩
theorem kw_or1 (h : JKT X ν a tt mt) : JKW X ν (.BoolOp .Or [a] pos) tt mt := ⟨pwk_or1 h.p, h.m⟩
theorem kw_or {rest : List Expr} (h : JKT X ν a tt mt) (h2 : JKW X ν (.BoolOp .Or (b :: rest) pos) tu mu) : JKW X ν (.BoolOp .Or (a :: b :: rest) pos) (tOr tt tu) (mOr mt mu) := ⟨pwk_or h.p h2.p, tm_or h.m h2.m⟩
theorem kt_w (h : JKW X ν e tt mt) : JKT X ν e tt mt := ⟨h.p.pt, h.m⟩
theorem kt_not (h : JKT X ν a tt mt) : JKT X ν (.UnaryOp .Not a pos) (tNot tt) (mNot mt) := ⟨ptk_not h.p, tm_not h.m⟩
variable {t u : TS} {m n : MS} {st : Stmt} {sts sts2 : List Stmt}
theorem kb_nil : JKB X ν W [] tNext mNext := ⟨pssk_nil, sm_next⟩
theorem kb_cons (h : JKS X ν W st t m) (h2 : JKB X ν W sts u n) : JKB X ν W (st :: sts) (tSeq t u) (mSeq m n) := ⟨pssk_cons h.p h2.p, sm_seq h.m h2.m⟩
theorem kb_one (h : JKS X ν W st t m) : JKB X ν W [st] t m := ⟨pssk_one h.p, h.m⟩
theorem ks_ret (he : JKE X ν e te me) : JKS X ν W (.Return (some e) pos) (tRet te) (mRet me) := ⟨psk_ret he.p, sm_ret he.m⟩
theorem ks_if (hc : JKT X ν c tt mt) (h1 : JKB X ν W sts t m) (h2 : JKB X ν W sts2 u n) : JKS X ν W (.If c sts sts2 pos) (tIfS tt t u) (mIfS mt m n) := ⟨psk_if hc.p h1.p h2.p, sm_if hc.m h1.m h2.m⟩
theorem kg_name (i : Nat) (hN : X.N.Nodup) (hν : x ∉ ν := by decide) (hi : X.N[i]? = some x := by rfl) (hx : X.env.scope.names.lookup x = some .local := by rfl) : JKG X ν (.Name x pos) (gName i) [i] (gN i) := ⟨pgk_name hN hi hx hν, gm_name⟩
theorem ki_list {tg : Expr} (he : JKE X ν e te me) {K : PySem.W.Frag} (hK : X.K = K := by rfl) : JKI X ν tg e (iList K te) (mItemsL me) := by
  subst hK
  exact ⟨pik_list he.p, im_listK he.m⟩
theorem ki_seq {tg : Expr} (he : JKE X ν e te me) {K : PySem.W.Frag} (hK : X.K = K := by rfl) : JKI X ν tg e (iSeqK K te) (mItemsK me) := by
  subst hK
  exact ⟨pik_seq he.p, im_seqK he.m⟩
theorem im_range1 {ta : TA} (ha : AM X.K ta ml) : IM X.K (iRng1 ta) (mRange1 ml) := fun ρ ds q G0 H0 G H σ c R z => by
  obtain ⟨es, e1, q⟩ := Option.bind_eq_some_iff.mp q
  split at q
  · split at q
    · rename_i n hn
      cases q
      refine ha ρ _ e1 G0 H0 G H σ c _ fun vs G' H' w r => ?_
      obtain ⟨v, rfl, r0⟩ := rps_one r
      cases rp_val r0
      exact ⟨_, rfl, hn.1, hn.2, z _ G' H' w walk_rangeD⟩
    · cases q
  · cases q
theorem ki_range1 {tg : Expr} (hm : X.mg "range" = none) (ha : JKA X ν [a] tl ml) (hg : Gl X "range" := by rfl) (hs : starEach [a] X.env = [(false, eval a X.env)] := by rfl) : JKI X ν tg (.Call (.Name "range" p2) [a] [] pos) (iRng1 tl) (mRange1 ml) := ⟨pik_range1 hg hm ha.p hs, im_range1 ha.m⟩
theorem ks_for {tg it : Expr} {wi : TI} {mi : MA} {g : TG} {js : List Nat} {f : D → DEnv → Option DEnv} (hp : PassesOwn (model X.prog X.w) X.A X.env X.xe) (hi : JKI X ν tg it wi mi) (hg : JKG X ν tg g js f) (hb : JKB X ν W sts t m) (hc : X.calm = true := by rfl)
    (hs : ∀ x, foldedSetIterable it X.env x = pure x := by intro _; rfl) : JKS X ν W (.For tg it sts [] pos) (tFor wi g t) (mFor mi f m) := ⟨psk_for hp hc hi.p hg.p hb.p hs, sm_for hi.m hg.m hb.m⟩
end
/-! ### N -/
section
variable {X : Cx} {n0 : Nat} {τ τ' : List Fact} {W : WX} {a b c e o : Expr} {es : List Expr} {ta tb tc te : TE} {ma mb mc me : ME} {tt tu : TT} {mt mu : MT} {tl : TA} {ml : MA} {pos p2 p3 q0 q1 apos cpos : Pos} {k j : Nat} {x y : Str} {t u : TS} {m n : MS} {st : Stmt} {sts sts2 : List Stmt} {P P' : Nat → Nat → Prop}
theorem n_of (h : JKE X (names τ) e te me) : JNE X n0 τ e te me := ⟨pen_of h.p, h.m⟩
theorem na_nil : JNA X n0 τ [] tNil mNil := ⟨pan_nil, am_nil⟩
theorem na_cons (mo : Mono τ) (h : JNE X n0 τ e te me) (hr : JNA X n0 τ es tl ml) (hs : starEach (e :: es) X.env = (false, eval e X.env) :: starEach es X.env := by rfl) : JNA X n0 τ (e :: es) (tCons te tl) (mCons me ml) := ⟨pan_cons mo h.p hr.p hs, am_cons h.m hr.m⟩
theorem n_lst (h : JNA X n0 τ es tl ml) : JNE X n0 τ (.List es pos) (tLst tl) (mLst (few ml)) := ⟨pen_lst h.p, em_fresh (fm_lst h.m)⟩
theorem n_add (mo : Mono τ) (ha : JNE X n0 τ a ta ma) (hb : JNE X n0 τ b tb mb) {K : PySem.W.Frag} (hK : X.K = K := by rfl) : JNE X n0 τ (.BinOp a .Add b pos) (tOp (rAddK K) ta tb) (mOp addK ma mb) := by
  subst hK
  exact ⟨pen_op mo opk_add ha.p hb.p, em_op r2_addK ha.m hb.m⟩
theorem nr_const {y z : Str} {i : Int} {j0 j1 j2 : Nat} {q0 q1 q2 : Pos} (h1 : 1 ≤ n0) :
    JNR X n0 τ [.Constant (.str y) j0 q0, .Constant (.str z) j1 q1, .Constant (.int i) j2 q2] (tCons (tC (.str y)) (tCons (tC (.str z)) (tCons (tC (.int i)) tNil))) (mCons (mC (.str y)) (mCons (mC (.str z)) (mCons (mC (.int i)) mNil))) :=
  ⟨prn_const h1, am_cons em_c (am_cons em_c (am_cons em_c am_nil))⟩
theorem nr_names (i k : Nat) {v : Int} {j : Nat} {q0 q1 q2 : Pos} (hx : ⟨x, false, P⟩ ∈ τ) (hy : ⟨y, false, P'⟩ ∈ τ) (hd : ∀ n t u, P n t → P' n u → t ≠ 0 ∧ u ≠ 0 ∧ t ≠ u)
    (hN : X.N[i]? = some x := by rfl) (hk : X.env.scope.names.lookup x = some .local := by rfl) (hN2 : X.N[k]? = some y := by rfl) (hk2 : X.env.scope.names.lookup y = some .local := by rfl) (hd1 : (x == ("__debug__" : Str)) = false := by decide) (hd2 : (y == ("__debug__" : Str)) = false := by decide) :
    JNR X n0 τ [.Name x q0, .Name y q1, .Constant (.int v) j q2] (tCons (tVar i) (tCons (tVar k) (tCons (tC (.int v)) tNil))) (mCons (mVar i) (mCons (mVar k) (mCons (mC (.int v)) mNil))) :=
  ⟨prn_names hx hy hd hN hk hN2 hk2 hd1 hd2, am_cons em_var (am_cons em_var (am_cons em_c am_nil))⟩
theorem nr_addR (i : Nat) {z : Str} {v : Int} {j j1 : Nat} {q0 q1 q2 q3 q4 : Pos} (hx : ⟨x, false, P⟩ ∈ τ) (hP : ∀ n t, P n t → t ≠ 0 ∧ t < n) (hz : z.length ≠ 0 := by decide)
    (hN : X.N[i]? = some x := by rfl) (hk : X.env.scope.names.lookup x = some .local := by rfl) (hd1 : (x == ("__debug__" : Str)) = false := by decide) :
    JNR X n0 τ [.Name x q0, .BinOp (.Name x q1) .Add (.Constant (.str z) j1 q3) q4, .Constant (.int v) j q2] (tCons (tVar i) (tCons (tOp rCatS (tVar i) (tC (.str z))) (tCons (tC (.int v)) tNil))) (mCons (mVar i) (mCons (mOp catSD (mVar i) (mC (.str z))) (mCons (mC (.int v)) mNil))) :=
  ⟨prn_addR hx hP hz hN hk hd1, am_cons em_var (am_cons (em_op r2_catS em_var em_c) (am_cons em_c am_nil))⟩
theorem nr_addL (i : Nat) {z : Str} {v : Int} {j j1 : Nat} {q0 q1 q2 q3 q4 : Pos} (hx : ⟨x, false, P⟩ ∈ τ) (hP : ∀ n t, P n t → t ≠ 0 ∧ t < n) (hz : z.length ≠ 0 := by decide)
    (hN : X.N[i]? = some x := by rfl) (hk : X.env.scope.names.lookup x = some .local := by rfl) (hd1 : (x == ("__debug__" : Str)) = false := by decide) :
    JNR X n0 τ [.Name x q0, .BinOp (.Constant (.str z) j1 q3) .Add (.Name x q1) q4, .Constant (.int v) j q2] (tCons (tVar i) (tCons (tOp rCatS (tC (.str z)) (tVar i)) (tCons (tC (.int v)) tNil))) (mCons (mVar i) (mCons (mOp catSD (mC (.str z)) (mVar i)) (mCons (mC (.int v)) mNil))) :=
  ⟨prn_addL hx hP hz hN hk hd1, am_cons em_var (am_cons (em_op r2_catS em_c em_var) (am_cons em_c am_nil))⟩
theorem n_rep (hnb : PySem.W.nsIn X.K cStatics sharingNotToldKey = some none) (mo : Mono τ) (ho : JNE X n0 τ o ta ma) (ha : JNR X n0 τ (e :: es) tl ml)
    (hbase : attributeBase o "replace" X.env (eval o X.env) = eval o X.env := by rfl)
    (hfew : ((backTo cpos (starEach (e :: es) X.env)).all (fun x => !x.1) && (backToKw cpos (keywordEach [] X.env)).all (fun x => x.1.isSome)
      && decide ((e :: es).length + ([] : List Keyword).length + (if ([] : List Keyword).isEmpty then 0 else 1) < 30)) = true := by rfl)
    (hline : (apos.endLine == cpos.line) = true := by rfl) (hs : starEach (e :: es) X.env = (false, eval e X.env) :: starEach es X.env := by rfl) (hplain : (backTo cpos (starEach es X.env)).any (·.1) = false := by rfl) {K : PySem.W.Frag} (hK : X.K = K := by rfl) :
    JNE X n0 τ (.Call (.Attribute o "replace" apos) (e :: es) [] cpos) (tBM K "str" rRep1 ta tl) (mMeth repD ma ml) := by
  subst hK
  exact ⟨pen_rep hnb mo ho.p ha.p hbase hfew hline hs hplain, em_bm rm_rep ho.m ha.m⟩
/-! blocks -/
theorem pb_of (h : JB X W sts t m) : JPB X n0 τ W sts t m := ⟨pbn_of h.p, h.m⟩
theorem pb_z (h : JZS X n0 τ τ' W st t m) (h2 : JPB X n0 τ' W sts u n) : JPB X n0 τ W (st :: sts) (tSeq t u) (mSeq m n) := ⟨pbn_z h.p h2.p, sm_seq h.m h2.m⟩
theorem pb_n (mo : Mono τ) (h : JNS X n0 τ W st t m) (h2 : JPB X n0 τ W sts u n) : JPB X n0 τ W (st :: sts) (tSeq t u) (mSeq m n) := ⟨pbn_n mo h.p h2.p, sm_seq h.m h2.m⟩
theorem pb_p (h : JS X W st t m) (h2 : JPB X n0 [] W sts u n) : JPB X n0 [] W (st :: sts) (tSeq t u) (mSeq m n) := ⟨pbn_p h.p h2.p, sm_seq h.m h2.m⟩
theorem pb_frz (i : Nat) (h : JPB X n0 τ W sts t m) : JPB X n0 τ W sts t (fun ρ => m (frz i ρ)) := ⟨h.p, sm_frz h.m⟩
theorem ns_of (h : JKS X (names τ) W st t m) : JNS X n0 τ W st t m := ⟨psn_of h.p, h.m⟩
theorem zs_set (i : Nat) {pos' : Pos} (mo : Mono τ) (hN : X.N.Nodup) (he : JNE X n0 τ e te me) (hν : x ∉ names τ := by decide) (hi : X.N[i]? = some x := by rfl) (hk : X.env.scope.names.lookup x = some .local := by rfl) (hs : swapsWith e (some (.Name x pos')) pos.line X.env = pure false := by rfl) :
    JZS X n0 τ τ W (.Assign [.Name x pos'] e pos) (tAsg te (gName i)) (mAsg i me) := ⟨z_set mo hN he.p hν hi hk hs, sm_asg he.m⟩
/-- .. a list that the def goes on to change -/
theorem zs_setO (i : Nat) {pos' : Pos} (mo : Mono τ) (hN : X.N.Nodup) (he : JNA X n0 τ es tl ml) (hν : x ∉ names τ := by decide) (hi : X.N[i]? = some x := by rfl) (hk : X.env.scope.names.lookup x = some .local := by rfl) (hs : swapsWith (.List es cpos) (some (.Name x pos')) pos.line X.env = pure false := by rfl) :
    JZS X n0 τ τ W (.Assign [.Name x pos'] (.List es cpos) pos) (tAsg (tLst tl) (gName i)) (mAsgO i (few ml)) := ⟨z_set mo hN (pen_lst he.p) hν hi hk hs, sm_asgO (fm_lst he.m)⟩
theorem zs_split (i k : Nat) {z : Str} {j : Nat} {q0 q1 pos' : Pos} (mo : Mono τ) (mP : ∀ n n' t, n ≤ n' → P' n t → P' n' t) (hy : ⟨y, false, P⟩ ∈ τ) (hP : ∀ n t, n0 ≤ n → P n t → P' n t) (hF : ∀ n n' t, n0 ≤ n → n ≤ t → t < n' → P' n' t) (hN : X.N.Nodup) (hν : x ∉ names τ := by decide)
    (hi : X.N[i]? = some x := by rfl) (hk : X.env.scope.names.lookup x = some .local := by rfl) (hi2 : X.N[k]? = some y := by rfl) (hk2 : X.env.scope.names.lookup y = some .local := by rfl) (hd2 : (y == ("__debug__" : Str)) = false := by decide)
    (hs : swapsWith (.Call (.Attribute (.Name y q0) "split" apos) [.Constant (.str z) j q1] [] cpos) (some (.Name x pos')) pos.line X.env = pure false := by rfl)
    (hbase : attributeBase (.Name y q0) "split" X.env (eval (.Name y q0) X.env) = eval (.Name y q0) X.env := by rfl)
    (hfew : ((backTo cpos (starEach [.Constant (.str z) j q1] X.env)).all (fun x => !x.1) && (backToKw cpos (keywordEach [] X.env)).all (fun x => x.1.isSome)
      && decide (([Expr.Constant (.str z) j q1] : List Expr).length + ([] : List Keyword).length + (if ([] : List Keyword).isEmpty then 0 else 1) < 30)) = true := by rfl)
    (hline : (apos.endLine == cpos.line) = true := by rfl) {K : PySem.W.Frag} (hK : X.K = K := by rfl) :
    JZS X n0 τ (⟨x, true, P'⟩ :: τ) W (.Assign [.Name x pos'] (.Call (.Attribute (.Name y q0) "split" apos) [.Constant (.str z) j q1] [] cpos) pos) (tAsg (tBM K "str" rSplitZ (tVar k) (tCons (tC (.str z)) tNil)) (gName i)) (mAsg i (mMeth splitD (mVar k) (mCons (mC (.str z)) mNil))) := by
  subst hK
  exact ⟨z_split mo mP hy hP hF hN hν hi hk hi2 hk2 hd2 hs hbase hfew hline, sm_asg (em_bm rm_splitZ em_var (am_cons em_c am_nil))⟩
theorem zs_ix (i k : Nat) {q0 pos' : Pos} (mo : Mono τ) (mP : ∀ n n' t, n ≤ n' → P' n t → P' n' t) (hy : ⟨y, true, P⟩ ∈ τ) (hP : ∀ n t, n0 ≤ n → P n t → P' n t) (hN : X.N.Nodup) (he : JKE X (names τ) e te me) (hν : x ∉ names τ := by decide) (hsx : PlainIx e := by exact fun _ _ => rfl)
    (hi : X.N[i]? = some x := by rfl) (hk : X.env.scope.names.lookup x = some .local := by rfl) (hi2 : X.N[k]? = some y := by rfl) (hk2 : X.env.scope.names.lookup y = some .local := by rfl) (hd2 : (y == ("__debug__" : Str)) = false := by decide)
    (hs : swapsWith (.Subscript (.Name y q0) e cpos) (some (.Name x pos')) pos.line X.env = pure false := by rfl) {K : PySem.W.Frag} (hK : X.K = K := by rfl) :
    JZS X n0 τ (⟨x, false, P'⟩ :: τ) W (.Assign [.Name x pos'] (.Subscript (.Name y q0) e cpos) pos) (tAsg (tOp (rIxL K) (tVar k) te) (gName i)) (mAsg i (mOp ixLD (mVar k) me)) := by
  subst hK
  exact ⟨z_ix mo mP hy hP hN hν he.p hsx hi hk hi2 hk2 hd2 hs, sm_asg (em_op r2_ixL em_var he.m)⟩
theorem za_nil : JZA X n0 τ [] P tNil mNil := ⟨paz_nil, am_nil⟩
theorem za_str {z : Str} {j : Nat} {q0 : Pos} (mo : Mono τ) (mP : ∀ n n' t, n ≤ n' → P n t → P n' t) (hF : ∀ n t, n0 ≤ t → t < n → P n t) (hr : JZA X n0 τ es P tl ml) (hs : starEach (.Constant (.str z) j q0 :: es) X.env = (false, eval (.Constant (.str z) j q0) X.env) :: starEach es X.env := by rfl) :
    JZA X n0 τ (.Constant (.str z) j q0 :: es) P (tCons (tC (.str z)) tl) (mCons (mC (.str z)) ml) := ⟨paz_str mo mP hF hr.p hs, am_cons em_c hr.m⟩
theorem za_name (i : Nat) {q0 : Pos} (mo : Mono τ) (mP : ∀ n n' t, n ≤ n' → P n t → P n' t) (hx : ⟨x, false, P'⟩ ∈ τ) (hP : ∀ n t, n0 ≤ n → P' n t → P n t) (hr : JZA X n0 τ es P tl ml) (hN : X.N[i]? = some x := by rfl) (hk : X.env.scope.names.lookup x = some .local := by rfl) (hd : (x == ("__debug__" : Str)) = false := by decide)
    (hs : starEach (.Name x q0 :: es) X.env = (false, eval (.Name x q0) X.env) :: starEach es X.env := by rfl) : JZA X n0 τ (.Name x q0 :: es) P (tCons (tVar i) tl) (mCons (mVar i) ml) := ⟨paz_name mo mP hx hP hr.p hN hk hd hs, am_cons em_var hr.m⟩
theorem nb_of (h : JKB X (names τ) W sts t m) : JNB X n0 τ W sts t m := ⟨pssn_of h.p, h.m⟩
theorem nb_one (h : JNS X n0 τ W st t m) : JNB X n0 τ W [st] t m := ⟨pssn_one h.p, h.m⟩
theorem ni_of {tg it : Expr} {wi : TI} {mi : MA} (h : JKI X (names τ) tg it wi mi) : JNI X n0 τ tg it wi mi := ⟨pin_of h.p, h.m⟩
theorem ni_list {tg : Expr} (h : JNE X n0 τ e te me) {K : PySem.W.Frag} (hK : X.K = K := by rfl) : JNI X n0 τ tg e (iList K te) (mItemsL me) := by
  subst hK
  exact ⟨pin_list h.p, im_listK h.m⟩
theorem ns_for {tg it : Expr} {wi : TI} {mi : MA} {g : TG} {js : List Nat} {f : D → DEnv → Option DEnv} (mo : Mono τ) (hp : PassesOwn (model X.prog X.w) X.A X.env X.xe) (hi : JNI X n0 τ tg it wi mi) (hg : JKG X (names τ) tg g js f) (hb : JNB X n0 τ W sts t m) (hc : X.calm = true := by rfl)
    (hs : ∀ x, foldedSetIterable it X.env x = pure x := by intro _; rfl) : JNS X n0 τ W (.For tg it sts [] pos) (tFor wi g t) (mFor mi f m) := ⟨psn_for mo hp hc hi.p hg.p hb.p hs, sm_for hi.m hg.m hb.m⟩
theorem ns_forZ (i : Nat) {q0 : Pos} (mo : Mono τ) (mP : ∀ n n' t, n ≤ n' → P n t → P n' t) (hp : PassesOwn (model X.prog X.w) X.A X.env X.xe) (ha : JZA X n0 τ es P tl ml) (hN : X.N.Nodup) (hb : JNB X n0 (⟨x, false, P⟩ :: τ) W sts t m) (hν : x ∉ names τ := by decide) (hc : X.calm = true := by rfl)
    (hix : X.N[i]? = some x := by rfl) (hk : X.env.scope.names.lookup x = some .local := by rfl) (hs : ∀ x, foldedSetIterable (.List es cpos) X.env x = pure x := by intro _; rfl) {K : PySem.W.Frag} (hK : X.K = K := by rfl) :
    JNS X n0 τ W (.For (.Name x q0) (.List es cpos) sts [] pos) (tFor (iList K (tLstZ tl)) (gName i) t) (mFor (mItemsL (mLst (few ml))) (gN i) m) := by
  subst hK
  exact ⟨psn_forZ mo mP hp hc ha.p hN hν hb.p hix hk hs, sm_for (im_listK (em_lstZ ha.m)) gm_name hb.m⟩
theorem zs_par (i j : Nat) {x y : Str} {a b : Expr} {px py pt pos : Pos} {kt k2 : Nat} {pt2 : Pos} (h0 : 1 ≤ n0) (hN : X.N.Nodup) (ha : JEH X a ta ma) (hb : JEH X b tb mb) (hw : swappedStores [.Tuple [.Name x px, .Name y py] kt pt] (.Tuple [a, b] k2 pt2) X.env = pure (some [x, y]) := by rfl)
    (hi : X.N[i]? = some x := by rfl) (hj : X.N[j]? = some y := by rfl) (hij : i ≠ j := by decide) (hxy : x ≠ y := by decide) (hx : X.env.scope.names.lookup x = some .local := by rfl) (hy : X.env.scope.names.lookup y = some .local := by rfl) (hc : X.calm = true := by rfl)
    (hs : swapsWithSole [.Tuple [.Name x px, .Name y py] kt pt] (.Tuple [a, b] k2 pt2) pos.line X.env = pure false := by rfl)
    (hst : starEach [a, b] X.env = [(false, eval a X.env), (false, eval b X.env)] := by rfl) :
    JZS X n0 [] [⟨x, false, Pn⟩, ⟨y, false, Pn⟩] W (.Assign [.Tuple [.Name x px, .Name y py] kt pt] (.Tuple [a, b] k2 pt2) pos) (tPar i j (tCons ta (tCons tb tNil))) (mPar i j (mCons ma (mCons mb mNil))) :=
  ⟨z_par h0 hN ha.p hb.p hw hi hj hij hxy hx hy hc hs hst, sm_par (am_cons ha.m (am_cons hb.m am_nil))⟩
theorem pb_pieces (i : Nat) {xs : List Str} {pos' : Pos}
    (ha : ∀ B, 1 ≤ B → JZA X B (xs.map fun y => ⟨y, false, fun _ t => 1 ≤ t ∧ t < B⟩) es (fun n t => B ≤ t ∧ t < n) tl ml) (h0 : 1 ≤ n0) (hN : X.N.Nodup)
    (rest : ∀ B T, 1 ≤ B → B ≤ T → JPB X T (⟨x, true, fun _ t => B ≤ t ∧ t < T⟩ :: xs.map fun y => ⟨y, false, fun _ t => 1 ≤ t ∧ t < B⟩) W sts u n) (hν : x ∉ xs := by decide)
    (hi : X.N[i]? = some x := by rfl) (hk : X.env.scope.names.lookup x = some .local := by rfl) (hs : swapsWith (.List es cpos) (some (.Name x pos')) pos.line X.env = pure false := by rfl) :
    JPB X n0 (xs.map fun y => ⟨y, false, Pn⟩) W (.Assign [.Name x pos'] (.List es cpos) pos :: sts) (tSeq (tAsg (tLstZ tl) (gName i)) u) (mSeq (mAsg i (mLst (few ml))) n) :=
  ⟨pbn_pieces (fun B h => (ha B h).p) h0 hN hν (fun B T h1 h2 => (rest B T h1 h2).p) hi hk hs, sm_seq (sm_asg (em_lstZ (ha 1 (Nat.le_refl _)).m)) (rest 1 1 (Nat.le_refl _) (Nat.le_refl _)).m⟩
theorem n_texts {f : Addr} {F : List D → Option D} {k k' i0 i2 : Nat} {p0 p1 p2 : Str} {P0 P2 : Nat → Nat → Prop} {pp : Pos} {y0 y2 : Str} (mo : Mono τ) (T : FnZ X.prog X.w X.K X.mg X.base f x k [p0, p1, p2] n0 [⟨p0, false, P0⟩, ⟨p2, true, P2⟩] F) (hr : Room k' X.A) (hx : ⟨y0, false, P0⟩ ∈ τ) (hz : ⟨y2, true, P2⟩ ∈ τ) (hb : JKE X (names τ) b tb mb) (hkk : k ≤ k' := by decide)
    (hg : Gl X x := by rfl) (hi0 : X.N[i0]? = some y0 := by rfl) (hk0 : X.env.scope.names.lookup y0 = some .local := by rfl) (hi2 : X.N[i2]? = some y2 := by rfl) (hk2 : X.env.scope.names.lookup y2 = some .local := by rfl)
    (hdb : (x == ("__debug__" : Str)) = false := by decide) (hd0 : (y0 == ("__debug__" : Str)) = false := by decide) (hd2 : (y2 == ("__debug__" : Str)) = false := by decide)
    (h0 : ∀ u0 u1 u2 : Value, argMap [p0, p1, p2] [u0, u1, u2] p0 = some u0 := by intro _ _ _; rfl) (h2 : ∀ u0 u1 u2 : Value, argMap [p0, p1, p2] [u0, u1, u2] p2 = some u2 := by intro _ _ _; rfl)
    (he : starEach [.Name y0 q0, b, .Name y2 q1] X.env = (false, eval (.Name y0 q0) X.env) :: starEach [b, .Name y2 q1] X.env := by rfl)
    (he2 : starEach [b, .Name y2 q1] X.env = [(false, eval b X.env), (false, eval (.Name y2 q1) X.env)] := by rfl) (hpl : (backTo pos (starEach [b, .Name y2 q1] X.env)).any (·.1) = false := by rfl) {K : PySem.W.Frag} (hK : X.K = K := by rfl) :
    JNE X n0 τ (.Call (.Name x pp) [.Name y0 q0, b, .Name y2 q1] [] pos) (tCall (spD K 3 F) [] E0 (tCons (tVar i0) (tCons tb (tCons (tVar i2) tNil)))) (mCall F (mCons (mVar i0) (mCons mb (mCons (mVar i2) mNil)))) := by
  subst hK
  exact ⟨pen_texts mo T (hr.mono hkk) hx hz hb.p hg hi0 hk0 hi2 hk2 hdb hd0 hd2 h0 h2 he he2 hpl, em_call (fun ds d h => T.ar ds d h) (am_cons em_var (am_cons hb.m (am_cons em_var am_nil)))⟩
/-! good values -/
variable {ν : List Str}
theorem g_str {z : Str} {j : Nat} : JEG X ν (.Constant (.str z) j pos) (tC (.str z)) (mC (.str z)) := ⟨peg_str, em_c⟩
theorem g_strI (hm : X.mg "str" = none) (ha : JKE X ν e te me) (hg : Gl X "str" := by rfl) (he : starEach [e] X.env = [(false, eval e X.env)] := by rfl) : JEG X ν (.Call (.Name "str" p2) [e] [] pos) (tCB (fun xs H Q => ∃ i, xs = [.int i] ∧ i.natAbs.log2 < 1920 ∧ Q (.str (toString i)) H) (tCons te tNil)) (mCall strD (mCons me mNil)) :=
  ⟨peg_strI hg hm ha.p he, em_cb rc_str (am_cons ha.m am_nil)⟩
theorem g_call {f : Addr} {k j n : Nat} {F : List D → Option D} (T : FnG X.prog X.w X.K X.mg X.base f x k n F) (hr : Room j X.A) (ha : JKA X ν (e :: es) tl ml) (hk : k ≤ j := by decide) (hg : Gl X x := by rfl) (hdb : (x == ("__debug__" : Str)) = false := by decide)
    (he : starEach (e :: es) X.env = (false, eval e X.env) :: starEach es X.env := by rfl) (hpl : (backTo pos (starEach es X.env)).any (·.1) = false := by rfl) {K : PySem.W.Frag} (hK : X.K = K := by rfl) :
    JEG X ν (.Call (.Name x p2) (e :: es) [] pos) (tCall (spD K n F) [] E0 tl) (mCall F ml) := by
  subst hK
  exact ⟨peg_call T (hr.mono hk) hg ha.p hdb he hpl, em_call T.ar ha.m⟩
theorem h_of (h : JEG X ν e te me) : JEH X e te me := ⟨h.p.h, h.m⟩
theorem h_joinLc {z : Str} {j : Nat} {q0 : Pos} {elt tg iter : Expr} {scope : Scope} {own : List (Str × Nat)} {lpos : Pos} {wi : TI} {mi : MA} {g : TG} {js : List Nat} {f : D → DEnv → Option DEnv} (hN : X.N.Nodup) (hi : JKI X [] tg iter wi mi) (ok : BlkOk X.N X.env.scope scope own)
    (hg : ∀ (s : Shared) (H : Hp) (C : Addr) (cl : List (Str × Addr)) (fp : List Addr), JKG (X.blk s H scope (compEnvC scope cl C X.env) fp) [] tg g js f)
    (he : ∀ (s : Shared) (H : Hp) (C : Addr) (cl : List (Str × Addr)) (fp : List Addr), JEG (X.blk s H scope (compEnvC scope cl C X.env) fp) [] elt te me) (hj : ∀ j ∈ js, j ∈ own.map (·.2) := by decide) (hc : X.calm = true := by rfl) (hs : ∀ x, foldedSetIterable iter X.env x = pure x := by intro _; rfl)
    (hbase : attributeBase (.Constant (.str z) j q0) "join" X.env (eval (.Constant (.str z) j q0) X.env) = eval (.Constant (.str z) j q0) X.env := by rfl)
    (hfew : ((backTo cpos (starEach [.ListComp elt [⟨tg, iter, [], 0⟩] scope lpos] X.env)).all (fun x => !x.1) && (backToKw cpos (keywordEach [] X.env)).all (fun x => x.1.isSome)
      && decide (([Expr.ListComp elt [⟨tg, iter, [], 0⟩] scope lpos] : List Expr).length + ([] : List Keyword).length + (if ([] : List Keyword).isEmpty then 0 else 1) < 30)) = true := by rfl)
    (hline : (apos.endLine == cpos.line) = true := by rfl) (hst : starEach [.ListComp elt [⟨tg, iter, [], 0⟩] scope lpos] X.env = [(false, eval (.ListComp elt [⟨tg, iter, [], 0⟩] scope lpos) X.env)] := by rfl) {K : PySem.W.Frag} (hK : X.K = K := by rfl) :
    JEH X (.Call (.Attribute (.Constant (.str z) j q0) "join" apos) [.ListComp elt [⟨tg, iter, [], 0⟩] scope lpos] [] cpos) (tBM K "str" (rJoinK K) (tC (.str z)) (tCons (tLcZ wi g te (own.map (·.2))) tNil)) (mMeth joinD (mC (.str z)) (mCons (mLst (mLc mi f mYes me (own.map (·.2)))) mNil)) := by
  subst hK
  exact ⟨⟨peg_joinLc hc hN hi.p ok (fun s H C cl fp => (hg s H C cl fp).p) (fun s H C cl fp => (he s H C cl fp).p) hs hbase hfew hline hst⟩, em_bm rm_joinK em_c (am_cons (em_lcZ hi.m (hg X.s_0 X.H_0 0 [] []).m hj (he X.s_0 X.H_0 0 [] []).m) am_nil)⟩
theorem gb_ret (h : JEH X e te me) : JGB X W [.Return (some e) pos] (tRet te) (mRet me) := ⟨pbg_ret h.p, sm_ret h.m⟩
theorem gb_if (hc : JT X c tt mt) (ha : JGB X W sts t m) (hb : JGB X W sts2 u n) : JGB X W (.If c sts [] pos :: sts2) (tSeq (tIfS tt t tNext) u) (mSeq (mIfS mt m mNext) n) := ⟨pbg_if hc.p ha.p hb.p, sm_seq (sm_if hc.m ha.m sm_next) hb.m⟩
end
end DD

set_option Elab.async false
set_option linter.all false
set_option maxRecDepth 100000
set_option maxHeartbeats 4000000
/-! DD17: sorted(xs), xs tuples of ints of any lengths. -/
namespace DD
open PySem PySem.Spec PyProof.Rows PySem.W L2 Evl
/-- v is a tuple of these numbers -/
def IsTi (h : Heap) (v : Value) (ns : List Int) : Prop := ∃ a o items n, v = .ref a ∧ h.get? a = some o ∧ o.cls = .type "tuple" ∧ o.data = .seq items n ∧ IntsAre items.toList ns
section
variable {prog : Program} {w : World} {A : Around} {E : Value → Shared → Prop} {s : Shared} {M : Model}
theorem IsTi.keeps {h h' : Heap} {v : Value} {ns : List Int} (x : IsTi h v ns) (k : ∀ b o, h.get? b = some o → o.cls = .type "tuple" → h'.get? b = some o) : IsTi h' v ns := by
  obtain ⟨a, o, items, n, e, g, c, d, i⟩ := x
  exact ⟨a, o, items, n, e, k _ _ g c, c, d, i⟩
def firstI (h : Heap) (v : Value) : Option Value := match v with
  | .ref a => match h.get? a with
    | some o => match o.data with
      | .seq xs _ => xs[0]?
      | _ => none
    | none => none
  | _ => none
theorem firsts_ti : ∀ (vs : List Value) {k : Value → List Int} {Q : List (Option Value) → Shared → Prop}, (∀ v ∈ vs, IsTi s.heap v (k v)) → Q (vs.map (firstI s.heap)) s → wpAny M A (vs.mapM firstOfTuple') Q E s
  | [], _, _, _, h => by rw [List.mapM_nil]; exact wpAny_pure h
  | v :: vs, k, Q, t, h => by
    have tv := t v List.mem_cons_self
    obtain ⟨a, o, items, n, rfl, g, c, d, i⟩ := id tv
    rw [List.mapM_cons]
    refine wpAny_bind ?_
    rw [kas_first_eq]
    refine wpAny_bind (Looks.here (show Looks M s.heap (typeOf (.ref a)) o.cls from (Looks.ld g).andThen .now) ?_)
    rw [c, if_neg (by first | decide | simp)]
    refine wpAny_bind (listItems_at g d (wpAny_pure ?_))
    have e1 : firstI s.heap (.ref a) = items[0]? := by
      unfold firstI
      simp only [g, d]
    rw [List.map_cons, e1] at h
    exact wpAny_bind (firsts_ti vs (k := k) (Q := fun bs s' => wpAny M A (pure (items[0]? :: bs)) Q E s') (fun u hu => t u (List.mem_cons_of_mem _ hu)) (wpAny_pure h))
theorem types_ti : ∀ (vs : List Value) {k : Value → List Int} {Q : List Value → Shared → Prop}, (∀ v ∈ vs, IsTi s.heap v (k v)) → Q (vs.map fun _ => Value.type "tuple") s → wpAny M A (vs.mapM typeOf) Q E s := fun vs k Q t h =>
  kas_mapM (r := Value.type "tuple") vs (fun v hv Q' hq => by
    obtain ⟨a, o, items, n, rfl, g, c, d, i⟩ := t v hv
    refine Looks.here (show Looks M s.heap (typeOf (.ref a)) o.cls from (Looks.ld g).andThen .now) ?_
    rw [c]
    exact hq) h
theorem lex_any {b : Bool} {Q : Bool → Shared → Prop} : ∀ {xs ys : List Value} {ns ms : List Int} (i : Nat), IntsAre xs ns → IntsAre ys ms → ∀ {fin : Bool}, (fin = decide (ns.length < ms.length)) → Q (HT.lexLt ns ms) s → KatLex prog w A b fin Q (xs.zip ys) i s
  | [], ys, _, ms, i, .nil, hy, fin, hf, h => by
    cases hy with
    | nil =>
      rw [HT.lexLt_nil_nil] at h
      rw [List.zip_nil_left]
      refine kat_nil ?_
      rw [hf]
      simpa using h
    | cons q u hy =>
      rw [HT.lexLt_nil_cons] at h
      rw [List.zip_nil_left]
      refine kat_nil ?_
      rw [hf]
      simpa using h
  | _ :: xs, ys, _, ms, i, .cons p t hx, hy, fin, hf, h => by
    cases hy with
    | nil =>
      rw [HT.lexLt_cons_nil] at h
      rw [List.zip_nil_right]
      refine kat_nil ?_
      rw [hf]
      simpa using h
    | cons q u hy =>
      rw [HT.lexLt_cons] at h
      rw [List.zip_cons_cons]
      refine kat_cons (SeqAt.EqAt.int_int p t q u prog w _ _ ?_)
      refine kat_go (fun e1 => ?_) (fun e1 => ?_)
      · have ex : p = q := by simpa using e1
        rw [if_pos ex] at h
        exact kat_yes (lex_any (i + 1) hx hy (by rw [hf]; simp) h)
      · have ex : ¬ p = q := by simpa using e1
        rw [if_neg ex] at h
        exact kat_no (TS.oneLt_ints _ h)
theorem ti_tuples {vs : List Value} {k : Value → List Int} (hv : ∀ v ∈ vs, IsTi s.heap v (k v)) : SrtO.Cmp prog w A s (tuples' true) (fun p => p.1 ∈ vs) (SrtO.lt2 fun v u => HT.lexLt (k v) (k u)) := by
  intro p q hp hq
  obtain ⟨a, o, xs, n, e, g, c, d, i⟩ := hv p.1 hp
  obtain ⟨a2, o2, ys, n2, e2, g2, c2, d2, i2⟩ := hv q.1 hq
  show wpAny (model prog w) A (keyLt' (tuples' true) p.1 q.1) (fun r s' => s' = s ∧ r = HT.lexLt (k p.1) (k q.1)) (fun _ _ => False) s
  generalize k p.1 = ns at i ⊢
  generalize k q.1 = ms at i2 ⊢
  rw [e, e2]
  have l1 : xs.size = ns.length := by rw [← IntsAre.length i, Array.length_toList]
  have l2 : ys.size = ms.length := by rw [← IntsAre.length i2, Array.length_toList]
  exact kat_lt g d g2 d2 (lex_any 0 i i2 (by rw [l1, l2]) ⟨rfl, rfl⟩)
theorem ti_general {vs : List Value} {k : Value → List Int} (hu : A.units < cLine) (hv : ∀ v ∈ vs, IsTi s.heap v (k v)) : SrtO.Cmp prog w A s general' (fun p => p.1 ∈ vs) (SrtO.lt2 fun v u => HT.lexLt (k v) (k u)) := by
  intro p q hp hq
  obtain ⟨a, o, xs, n, e, g, c, d, i⟩ := hv p.1 hp
  obtain ⟨a2, o2, ys, n2, e2, g2, c2, d2, i2⟩ := hv q.1 hq
  show wpAny (model prog w) A (keyLt' general' p.1 q.1) (fun r s' => s' = s ∧ r = HT.lexLt (k p.1) (k q.1)) (fun _ _ => False) s
  generalize k p.1 = ns at i ⊢
  generalize k q.1 = ms at i2 ⊢
  rw [e, e2]
  show wpAny (model prog w) A (oneLt' false (.ref a) (.ref a2)) _ _ s
  exact kat_one _ _ (HT.lt_tupInts ⟨o, g, c, n, d⟩ ⟨o2, g2, c2, n2, d2⟩ i i2 hu (show PySem.W.BoolBack (fun r s' => s' = s ∧ r = HT.lexLt ns ms) (.bool (HT.lexLt ns ms)) s from ⟨rfl, rfl⟩))
theorem ti_one {vs : List Value} {k : Value → List Int} (hu : A.units < cLine) (hv : ∀ v ∈ vs, IsTi s.heap v (k v)) : SrtO.Cmp prog w A s oneType' (fun p => p.1 ∈ vs) (SrtO.lt2 fun v u => HT.lexLt (k v) (k u)) := by
  intro p q hp hq
  obtain ⟨a, o, xs, n, e, g, c, d, i⟩ := hv p.1 hp
  obtain ⟨a2, o2, ys, n2, e2, g2, c2, d2, i2⟩ := hv q.1 hq
  show wpAny (model prog w) A (keyLt' oneType' p.1 q.1) (fun r s' => s' = s ∧ r = HT.lexLt (k p.1) (k q.1)) (fun _ _ => False) s
  generalize k p.1 = ns at i ⊢
  generalize k q.1 = ms at i2 ⊢
  rw [e, e2]
  obtain ⟨cls, dd, dt, sl⟩ := o
  obtain ⟨cls2, dd2, dt2, sl2⟩ := o2
  simp only at c d c2 d2
  subst c d c2 d2
  rw [keyLt'_oneType, oneLt'_eq]
  simp only [if_true]
  refine wpAny_bind (wpAny_cRoomFor hu ?_)
  refine wpAny_bind (wpAny_callSpecialIfBound?_slot ⟨_, g, rfl⟩ F.slot_tuple_lt (call_meets F.slot_tuple_lt ⟨_, g, rfl⟩ F.entry_tuple_lt (F.args_tuple_lt_2 _ _) (HT.tuple_lt_ints a a2 xs ys n n2 dd dd2 sl sl2 ns ms i i2) ⟨g, g2, ?_⟩))
  exact wpAny_truthy_bool ⟨rfl, rfl⟩
theorem ti_sortable {a : Addr} {vs : List Value} {k : Value → List Int} (h2 : 2 ≤ vs.length) (hu : A.units < cLine) (hv : ∀ v ∈ vs, IsTi s.heap v (k v)) (ha : ∀ o, s.heap.get? a = some o → o.cls ≠ .type "tuple") : SrtO.SortableO prog w A s a vs fun v u => HT.lexLt (k v) (k u) := by
  intro h' keep
  have hv' : ∀ v ∈ vs, IsTi h' v (k v) := fun v hm => (hv v hm).keeps fun b o e c => keep b o (fun z => by subst z; exact ha o e c) e
  cases c1 : (vs.map (firstI h')).toArray.all (·.isSome) with
  | true =>
    refine ⟨tuples' true, fun Q E hq => ?_, ti_tuples (s := { s with heap := h' }) hv'⟩
    rw [kat_kind_eq, List.mapM_toArray, map_eq_pure_bind]
    refine wpAny_bind (wpAny_bind (firsts_ti (s := { s with heap := h' }) vs (k := k) hv' (wpAny_pure ?_)))
    rw [if_pos c1]
    refine wpAny_bind (wpAny_rule ?_)
    have hfm : ((vs.map (firstI h')).toArray.filterMap id) = (vs.filterMap (firstI h')).toArray := by simp [List.filterMap_map, Function.comp_def]
    have hint : ∀ f ∈ vs.filterMap (firstI h'), ∃ x t, f = Value.int x t := fun f hf => by
      obtain ⟨v, hm, e⟩ := List.mem_filterMap.mp hf
      obtain ⟨a, o, items, n, rfl, g, c, d, i⟩ := hv' v hm
      have e1 : firstI h' (.ref a) = items[0]? := by
        unfold firstI
        simp only [g, d]
      rw [e1] at e
      exact i.all f (by simpa using Array.mem_of_getElem? e)
    obtain ⟨f1, fr, ef⟩ : ∃ f1 fr, vs.filterMap (firstI h') = f1 :: fr := by
      match vs, h2, c1 with
      | v :: r, _, c1 =>
        simp only [List.all_toArray, List.map_cons, List.all_cons, Bool.and_eq_true] at c1
        obtain ⟨f, hf⟩ := Option.isSome_iff_exists.mp c1.1
        exact ⟨f, _, by rw [List.filterMap_cons, hf]⟩
    rw [hfm, ef, oneTypeOnly'_eq, List.mapM_toArray, map_eq_pure_bind]
    refine wpAny_bind (wpAny_bind (wpAny_bind (kas_mapM (r := Value.type "int") _ (fun v hm Q' hq => ?_) (wpAny_pure ?_))))
    · obtain ⟨x, t, rfl⟩ := hint v (by rw [ef]; exact hm)
      exact wpAny_pure hq
    · have hall2 : ((List.map (fun _ => Value.type "int") (f1 :: fr)).toArray.all fun x => x == Value.type "int") = true := by
        simp only [List.all_toArray, List.all_map, List.all_eq_true]
        intro _ _
        rfl
      have h0 : (List.map (fun _ => Value.type "int") (f1 :: fr)).toArray[0]? = some (Value.type "int") := by simp
      rw [h0]
      simp only [hall2, if_true]
      have e : (Value.type "int" != Value.type "tuple") = true := by first | decide +kernel | rfl | decide
      refine wpAny_pure (wpAny_pure ?_)
      show Q (tuples' (Value.type "int" != Value.type "tuple")) _
      rw [e]
      exact hq
  | false =>
    cases c2 : (((vs.map (firstI h')).toArray[0]?).bind id).isSome with
    | true =>
      refine ⟨general', fun Q E hq => ?_, ti_general (s := { s with heap := h' }) hu hv'⟩
      rw [kat_kind_eq, List.mapM_toArray, map_eq_pure_bind]
      refine wpAny_bind (wpAny_bind (firsts_ti (s := { s with heap := h' }) vs (k := k) hv' (wpAny_pure ?_)))
      rw [if_neg (by rw [c1]; exact Bool.false_ne_true), if_pos c2]
      exact wpAny_pure hq
    | false =>
      refine ⟨oneType', fun Q E hq => ?_, ti_one (s := { s with heap := h' }) hu hv'⟩
      rw [kat_kind_eq, List.mapM_toArray, map_eq_pure_bind]
      refine wpAny_bind (wpAny_bind (firsts_ti (s := { s with heap := h' }) vs (k := k) hv' (wpAny_pure ?_)))
      rw [if_neg (by rw [c1]; exact Bool.false_ne_true), if_neg (by rw [c2]; exact Bool.false_ne_true)]
      rw [oneTypeOnly'_eq, List.mapM_toArray, map_eq_pure_bind]
      refine wpAny_bind (wpAny_bind (wpAny_bind (types_ti (s := { s with heap := h' }) vs (k := k) hv' (wpAny_pure ?_))))
      obtain ⟨v1, vr, ev⟩ : ∃ v1 vr, vs = v1 :: vr := by
        match vs, h2 with
        | v :: r, _ => exact ⟨v, r, rfl⟩
      have hall2 : ((List.map (fun _ => Value.type "tuple") vs).toArray.all fun x => x == Value.type "tuple") = true := by
        simp only [List.all_toArray, List.all_map, List.all_eq_true]
        intro _ _
        rfl
      have h0 : (List.map (fun _ => Value.type "tuple") vs).toArray[0]? = some (Value.type "tuple") := by rw [ev]; simp
      rw [h0]
      simp only [hall2, if_true]
      exact wpAny_pure (wpAny_pure hq)
end

/-! ### the rule -/
def rSortTi (K : PySem.W.Frag) : List V → Hp → VK → Prop := fun xs H Q => ∃ (a : Addr) (ps : List (Addr × List Int)), xs = [.ref a] ∧ SqL K H a (ps.map fun p => V.ref p.1) ∧ (∀ p ∈ ps, SqT K H p.1 (p.2.map V.int)) ∧
  ∀ ps' : List (Addr × List Int), ps'.Perm ps → ps'.Pairwise (fun p q => HT.lexLt q.2 p.2 = false) → ∀ d, H d = none → Q (.ref d) (upd H d (.lst (ps'.map fun p => V.ref p.1)))
def kOf (ps : List (Addr × List Int)) (u : Value) : List Int := ((ps.find? fun p => p.1 == adO u).map (·.2)).getD []
theorem pairs_refs : ∀ {ps : List (Addr × List Int)} {us : List Value}, Vals (ps.map fun p => V.ref p.1) us → us = ps.map fun p => Value.ref p.1
  | [], _, .nil => rfl
  | p :: ps, _, .cons h r => by
    cases h
    rw [List.map_cons, ← pairs_refs r]
theorem refs_vals : ∀ ps : List (Addr × List Int), Vals (ps.map fun p => V.ref p.1) (ps.map fun p => Value.ref p.1)
  | [] => .nil
  | _ :: ps => .cons rfl (refs_vals ps)
theorem map_int_inj {a b : List Int} (h : a.map V.int = b.map V.int) : a = b := by
  induction a generalizing b with
  | nil => cases b with
    | nil => rfl
    | cons x y => cases h
  | cons x r ih => cases b with
    | nil => cases h
    | cons y t =>
      simp only [List.map_cons, List.cons.injEq, V.int.injEq] at h
      rw [h.1, ih h.2]
section
variable {X : Cx}
theorem cr_sortTi (hu : X.A.units + 64 < cLine) : CallR X (.builtin "sorted") (rSortTi X.K) := by
  intro pins s σ H vs us Q I r h
  obtain ⟨a, ps, rfl, hs, ht, q⟩ := h
  obtain ⟨its, rv, hl, hz⟩ := I.list hs
  obtain ⟨u, rfl, r1⟩ := vals1 r
  cases (show u = Value.ref a from r1)
  have ei := pairs_refs rv
  have kp : ∀ p ∈ ps, kOf ps (.ref p.1) = p.2 := fun p hp => by
    unfold kOf
    cases e : ps.find? fun p' => p'.1 == adO (.ref p.1) with
    | none =>
      have := List.find?_eq_none.mp e p hp
      simp [adO] at this
    | some p' =>
      have h1 := List.find?_some e
      have h2 := List.mem_of_find?_eq_some e
      have h1' : p'.1 = p.1 := by simpa [adO] using h1
      have t1 := ht p' h2
      rw [h1'] at t1
      exact map_int_inj (I.tuple_inj t1 (ht p hp))
  have hv : ∀ u ∈ its, IsTi s.heap u (kOf ps u) := fun u hm => by
    rw [ei] at hm
    obtain ⟨p, hp, rfl⟩ := List.mem_map.mp hm
    rw [kp p hp]
    obtain ⟨vs, r2, ⟨o, g, c, n, d⟩, _⟩ := I.tuple (ht p hp)
    exact ⟨p.1, o, _, n, rfl, g, c, d, by rw [List.toList_toArray]; exact intsAre_of r2⟩
  refine SrtO.sorted_ord (NtL.swo_lexL (kOf ps)) hl.isList (by rw [← rv.length]; exact hz) (fun h2 h₁ a' ha' kk => ?_) fun out h1 h2 => ?_
  · refine ti_sortable (s := { s with heap := h₁ }) h2 (by show X.A.units + 1 + 1 < cLine; omega) (fun v hm => (hv v hm).keeps fun b o e _ => (kk b o e).2) fun o e c => ?_
    have e' : some o = some (seqObj "list" its.toArray 0) := e.symm.trans ha'
    cases e'
    exact absurd (Value.type.inj c) (by decide)
  · obtain ⟨ep, he'⟩ := PyProof.Rows.sortedAll_at s.heap its out.toArray
    have back : ∀ l : List Value, (∀ u ∈ l, u ∈ its) → l = (l.map fun u => (adO u, kOf ps u)).map fun p => Value.ref p.1 := fun l => by
      induction l with
      | nil => intro _; rfl
      | cons u l ih =>
        intro h
        have hm := h u List.mem_cons_self
        rw [ei] at hm
        obtain ⟨p, hp, rfl⟩ := List.mem_map.mp hm
        rw [List.map_cons, List.map_cons, ← ih fun z hz => h z (List.mem_cons_of_mem _ hz)]
        rfl
    have hps : (its.map fun u => (adO u, kOf ps u)) = ps := by
      rw [ei, List.map_map]
      have : ∀ p ∈ ps, ((fun u => (adO u, kOf ps u)) ∘ fun p => Value.ref p.1) p = p := fun p hp => by
        show (adO (.ref p.1), kOf ps (.ref p.1)) = p
        rw [kp p hp]
        rfl
      exact (List.map_congr_left this).trans (List.map_id _)
    have hperm : (out.map fun u => (adO u, kOf ps u)).Perm ps := by
      have := h2.perm.map fun u => (adO u, kOf ps u)
      rw [hps] at this
      exact this
    have hsort : (out.map fun u => (adO u, kOf ps u)).Pairwise (fun p q => HT.lexLt q.2 p.2 = false) := List.pairwise_map.mpr (h1.imp fun {x y} z => z)
    have hlen : ((out.map fun u => (adO u, kOf ps u)).map fun p => V.ref p.1).length ≤ sizeLine := by
      rw [List.length_map, hperm.length_eq]
      rw [List.length_map] at hz
      exact hz
    have rvo : Vals ((out.map fun u => (adO u, kOf ps u)).map fun p => V.ref p.1) out := by
      have z := refs_vals (out.map fun u => (adO u, kOf ps u))
      rw [← back out fun u hm => h2.perm.mem_iff.mp hm] at z
      exact z
    exact ⟨.ref _, upd H (s.heap.objs.size + 1) (.lst _), I.laid (t' := s.toks) (fun _ _ => PyProof.Rows.sortedAll_old) (Nat.le_succ _) ⟨hlen, out, ep, rvo, he'⟩, rfl, q _ hperm hsort _ (I.hok.fresh (Nat.le_succ _))⟩
end
/-! ### its meaning -/
def insT (x : List Int) : List (List Int) → List (List Int)
  | [] => [x]
  | y :: r => if HT.lexLt y x = true then y :: insT x r else x :: y :: r
def sortT (l : List (List Int)) : List (List Int) := l.foldr insT []
abbrev SrtT (l : List (List Int)) : Prop := l.Pairwise fun x y => HT.lexLt y x = false
theorem insT_perm (x : List Int) : ∀ l, (insT x l).Perm (x :: l)
  | [] => .refl _
  | y :: r => by
    unfold insT
    split
    · exact ((insT_perm x r).cons y).trans (.swap x y r)
    · exact .refl _
theorem sortT_perm : ∀ l, (sortT l).Perm l
  | [] => .refl _
  | x :: l => (insT_perm x (sortT l)).trans ((sortT_perm l).cons x)
theorem insT_srt {x : List Int} : ∀ {l}, SrtT l → SrtT (insT x l)
  | [], _ => List.pairwise_singleton _ _
  | y :: r, h => by
    obtain ⟨h1, h2⟩ := List.pairwise_cons.mp h
    unfold insT
    split
    · rename_i c
      refine List.pairwise_cons.mpr ⟨fun z hz => ?_, insT_srt h2⟩
      rcases List.mem_cons.mp ((insT_perm x r).mem_iff.mp hz) with e | hz
      · subst e
        exact NtL.lex_asym _ _ c
      · exact h1 z hz
    · rename_i c
      have c' : HT.lexLt y x = false := by simpa using c
      refine List.pairwise_cons.mpr ⟨fun z hz => ?_, h⟩
      rcases List.mem_cons.mp hz with e | hz
      · subst e
        exact c'
      · exact NtL.lex_tr _ _ _ c' (h1 z hz)
theorem sortT_srt : ∀ l, SrtT (sortT l)
  | [] => List.Pairwise.nil
  | x :: l => insT_srt (sortT_srt l)
theorem lex_eq : ∀ x y : List Int, HT.lexLt x y = false → HT.lexLt y x = false → x = y
  | [], [], _, _ => rfl
  | [], y :: r, h, _ => by rw [HT.lexLt_nil_cons] at h; cases h
  | x :: r, [], _, h => by rw [HT.lexLt_nil_cons] at h; cases h
  | x :: r, y :: t, h, h' => by
    rw [HT.lexLt_cons] at h h'
    by_cases e : x = y
    · subst e
      rw [if_pos rfl] at h h'
      rw [lex_eq r t h h']
    · rw [if_neg e] at h
      rw [if_neg (Ne.symm e)] at h'
      have h1 := of_decide_eq_false h
      have h2 := of_decide_eq_false h'
      omega
theorem srt_unique : ∀ {a b : List (List Int)}, a.Perm b → SrtT a → SrtT b → a = b
  | [], b, p, _, _ => (List.nil_perm.mp p).symm
  | x :: a, [], p, _, _ => absurd p.length_eq (by simp)
  | x :: a, y :: b, p, h, h' => by
    have e : x = y := by
      have hx : x ∈ y :: b := p.mem_iff.mp List.mem_cons_self
      have hy : y ∈ x :: a := p.mem_iff.mpr List.mem_cons_self
      rcases List.mem_cons.mp hx with e | hx
      · exact e
      · rcases List.mem_cons.mp hy with e | hy
        · exact e.symm
        · exact lex_eq x y ((List.pairwise_cons.mp h').1 x hx) ((List.pairwise_cons.mp h).1 y hy)
    subst e
    rw [srt_unique (List.perm_cons x |>.mp p) (List.pairwise_cons.mp h).2 (List.pairwise_cons.mp h').2]
def tupI (ns : List Int) : D := .tup (ns.map D.int)
def tupsI : List D → Option (List (List Int))
  | [] => some []
  | .tup ds :: r => (intsD ds).bind fun ns => (tupsI r).map (ns :: ·)
  | _ :: _ => none
def sortTD : List D → Option D
  | [.lst ds] => (tupsI ds).map fun l => .lst ((sortT l).map tupI)
  | _ => none
variable {K : PySem.W.Frag} {G H : Hp}
theorem tups_ref : ∀ {ds : List D} {vs : List V} {l : List (List Int)}, Rps K G vs ds → tupsI ds = some l → ∃ ps : List (Addr × List Int), vs = ps.map (fun p => V.ref p.1) ∧ ps.map (·.2) = l ∧ ∀ p ∈ ps, SqT K G p.1 (p.2.map V.int)
  | [], _, l, r, h => by
    cases r
    cases h
    exact ⟨[], rfl, rfl, fun _ h => absurd h (by simp)⟩
  | d :: ds, _, l, r, h => by
    cases r with
    | cons a b =>
      cases d with
      | tup xs =>
        obtain ⟨ns, h1, h⟩ := Option.bind_eq_some_iff.mp h
        obtain ⟨l', h2, rfl⟩ := Option.map_eq_some_iff.mp h
        obtain ⟨t, us, rfl, s1, r1⟩ := rp_tup a
        obtain ⟨ps, e1, e2, e3⟩ := tups_ref b h2
        rw [intsD_ints h1] at r1
        rw [Rps.of_vals r1] at s1
        refine ⟨(t, ns) :: ps, by rw [e1]; rfl, by rw [← e2]; rfl, fun p hp => ?_⟩
        rcases List.mem_cons.mp hp with e | hp
        · subst e
          exact s1
        · exact e3 p hp
      | val v => cases h
      | lst xs => cases h
theorem rps_tups : ∀ {ps : List (Addr × List Int)}, (∀ p ∈ ps, SqT K G p.1 (p.2.map V.int)) → Rps K G (ps.map fun p => V.ref p.1) ((ps.map (·.2)).map tupI)
  | [], _ => .nil
  | p :: ps, h => .cons (.tup (h p List.mem_cons_self) (rps_intsT p.2)) (rps_tups fun q hq => h q (List.mem_cons_of_mem _ hq))
where rps_intsT : ∀ ns : List Int, Rps K G (ns.map V.int) (ns.map D.int)
  | [] => .nil
  | n :: ns => .cons (.val _) (rps_intsT ns)
theorem rc_sortT : RCM K (rSortTi K) sortTD := fun xs as d G H e r h Q q => by
  unfold sortTD at h
  split at h
  · obtain ⟨l, hl, rfl⟩ := Option.map_eq_some_iff.mp h
    obtain ⟨v, rfl, r0⟩ := rps_one r
    obtain ⟨p, vs, rfl, h1, r1⟩ := rp_lst r0
    obtain ⟨ps, rfl, e2, e3⟩ := tups_ref r1 hl
    refine ⟨p, ps, rfl, ex_l e h1, fun p hp => ex_t e (e3 p hp), fun ps' hp hs => ?_⟩
    have el : ps'.map (·.2) = sortT l := srt_unique ((hp.map (·.2)).trans (by rw [e2]; exact (sortT_perm l).symm)) (List.pairwise_map.mpr hs) (sortT_srt l)
    have rr := rps_tups (K := K) (G := G) (ps := ps') fun p h => e3 p (hp.mem_iff.mp h)
    rw [el] at rr
    exact new_lst e rr q
  · cases h
theorem b_sortT {X : Cx} {j : Nat} (hr : Room j X.A) {K : PySem.W.Frag} (hK : X.K = K := by rfl) : BR X (.builtin "sorted") (rSortTi K) sortTD := by
  subst hK
  exact ⟨cr_sortTi hr.units, rc_sortT⟩
end DD

set_option Elab.async false
set_option linter.all false
set_option maxRecDepth 100000
set_option maxHeartbeats 4000000
/-! DD18: the opening line of a law: behind it a token is out. -/
namespace DD
open PySem PySem.Spec PyProof.Rows L2 Evl
section
variable {X : Cx} {W : WX} {x y z : Str} {sts : List Stmt} {tu : TS} {mu : MS}
theorem pb_first (i k : Nat) {f : Addr} {kk j n : Nat} {F : List D → Option D} {a b : Int} {ja jb : Nat} {p0 p1 p2 p3 pc pos pos' : Pos} (hN : X.N.Nodup) (T : FnD X.prog X.w X.K X.mg X.base f z kk n F) (hr : Room j X.A) (rest : JPB X 1 [] W sts tu mu) (hkk : kk ≤ j := by decide)
    (hi : X.N[i]? = some x := by rfl) (hx : Loc X.env.scope x := by first | exact .inl rfl | exact .inr rfl) (hi2 : X.N[k]? = some y := by rfl) (hv : Vis X.env.scope y := by first | exact Or.inl rfl | exact Or.inr (Or.inl rfl) | exact Or.inr (Or.inr rfl)) (hg : Gl X z := by rfl)
    (hd : (y == ("__debug__" : Str)) = false := by decide) (hcd : (y == ("__classdict__" : Str)) = false := by decide) (hdb : (z == ("__debug__" : Str)) = false := by decide)
    (hs : swapsWith (.Call (.Name z pc) [.Name y p1, .Constant (.int a) ja p2, .Constant (.int b) jb p3] [] p0) (some (.Name x pos')) pos.line X.env = pure false := by rfl) (hf : X.fn x = true ∨ X.env.scope.names.lookup x = some .local := by first | exact .inl rfl | exact .inr rfl)
    (he : starEach [.Name y p1, .Constant (.int a) ja p2, .Constant (.int b) jb p3] X.env = (false, eval (.Name y p1) X.env) :: starEach [.Constant (.int a) ja p2, .Constant (.int b) jb p3] X.env := by rfl)
    (he2 : starEach [.Constant (.int a) ja p2, .Constant (.int b) jb p3] X.env = [(false, eval (.Constant (.int a) ja p2) X.env), (false, eval (.Constant (.int b) jb p3) X.env)] := by rfl)
    (hpl : (backTo p0 (starEach [.Constant (.int a) ja p2, .Constant (.int b) jb p3] X.env)).any (·.1) = false := by rfl) {K : PySem.W.Frag} (hK : X.K = K := by rfl) :
    JPB X 0 [] W (.Assign [.Name x pos'] (.Call (.Name z pc) [.Name y p1, .Constant (.int a) ja p2, .Constant (.int b) jb p3] [] p0) pos :: sts)
      (tSeq (tAsg (tCall (spD K n F) [] E0 (tCons (tVar k) (tCons (tC (.int a)) (tCons (tC (.int b)) tNil)))) (gName i)) tu) (mSeq (mAsg i (mCall F (mCons (mVar k) (mCons (mC (.int a)) (mCons (mC (.int b)) mNil))))) mu) := by
  subst hK
  refine ⟨⟨fun pins s σ H D I nz h => ?_⟩, sm_seq (sm_asg (em_call T.ar (am_cons em_var (am_cons em_c (am_cons em_c am_nil))))) rest.m⟩
  obtain ⟨fd, ps, hb, ok⟩ := T.ok
  refine wpAny_execs_cons (wpAny_Assign_Name (wpAny_Call_Name_kw (ld_glob I hg T.g ?_ hdb)) hs)
  refine PySem.W.callWith_K (h₀ := X.base) I.ok.mod.kin T.kp ?_ he hpl
  rw [he, he2]
  show wpAny _ _ (spliced ((false, eval (.Name y p1) X.env) :: (false, eval (.Constant (.int a) ja p2) X.env) :: (false, eval (.Constant (.int b) jb p3) X.env) :: [])) _ _ s
  refine Calls.spliced_cons (thn ((pe_var hi2 hv hd hcd).run pins s σ H _ I h) fun u s1 ⟨v, H1, I1, r1, q1⟩ => ?_)
  refine Calls.spliced_cons (wpAny_Constant_int (Calls.spliced_cons (wpAny_Constant_int (Calls.spliced_nil ?_))))
  have I2 : Inv X pins σ H1 { s1 with toks := s1.toks + 1 + 1 } := I1.tok _
  refine ⟨I2.kIn, ?_⟩
  refine thk (run_fn (vs := [v, .int a, .int b]) ok (hr.mono hkk) hb .nil pass0 I2 (.cons r1 (.cons ⟨_, rfl⟩ (.cons ⟨_, rfl⟩ .nil))) q1) fun w s3 t3 ⟨v3, H3, I3, r3, q3⟩ => ?_
  have t3' : s1.toks + 1 + 1 ≤ s3.toks := t3
  refine wpAny_mono (PySem.wpAny_toks (store_ok I3 hN hi hx r3 (Q := fun _ s4 => Inv X pins (σ.set i (some v3)) H3 s4) (fun s4 I4 => I4) hf)) (fun _ s4 z4 => ?_) fun _ _ z => z.2
  obtain ⟨t4, I4⟩ := z4
  obtain ⟨m, hm, _⟩ := id I4.loc
  exact rest.p.run pins s4 _ H3 D I4 ⟨by omega, m, hm, fun f hf => absurd hf (by simp)⟩ q3
end
end DD

set_option Elab.async false
set_option linter.all false
set_option maxRecDepth 100000
set_option maxHeartbeats 4000000
/-! DD19: any pure data compared (==, !=, <, <=, >, >=, in), sorted, counted, found; x or y. -/
namespace DD
open PySem PySem.Spec PyProof.Rows L2 Evl PySem.W
section
variable {X : Cx} {K : PySem.W.Frag}
def rDat2 (K : PySem.W.Frag) (c f : PyData → PyData → Bool) : R2 := fun x y H Q => ∃ d e, Dp K H x d ∧ Dp K H y e ∧ c d e = true ∧ Q (.bl (f d e)) H
def fitP (d e : PyData) : Bool := decide (min d.depth e.depth ≤ 180)
def eqC (d e : PyData) : Bool := d.plain && e.plain && fitP d e
def notNoneP : PyData → Bool
  | .none => false
  | _ => true
theorem notNone_of {d : PyData} (h : notNoneP d = true) : d ≠ .none := fun e => by subst e; cases h
def ltC (d e : PyData) : Bool := alike d e && notNoneP d && fitP d e
theorem room180 {j : Nat} (hr : Room j X.A) {d e : PyData} (h : fitP d e = true) : X.A.units + min d.depth e.depth < cLine := by
  have := hr.un
  have := of_decide_eq_true h
  omega
theorem op_eqP {j : Nat} (hr : Room j X.A) : OpR X (compareOp .Eq) (rDat2 X.K eqC PyData.eqv) := by
  intro pins s σ H x y v u Q I rx ry h
  obtain ⟨d, e, hd, he, hc, q⟩ := h
  simp only [eqC, Bool.and_eq_true] at hc
  obtain ⟨as, r1⟩ := Dp.reads I d x v hd rx
  obtain ⟨bs, r2⟩ := Dp.reads I e y u he ry
  exact SeqAt.eq_plain r1 r2 hc.1.1 hc.1.2 (room180 hr hc.2) ⟨.bl _, H, I, rfl, q⟩
theorem op_neP {j : Nat} (hr : Room j X.A) : OpR X (compareOp .NotEq) (rDat2 X.K eqC fun d e => !PyData.eqv d e) := by
  intro pins s σ H x y v u Q I rx ry h
  obtain ⟨d, e, hd, he, hc, q⟩ := h
  simp only [eqC, Bool.and_eq_true] at hc
  obtain ⟨as, r1⟩ := Dp.reads I d x v hd rx
  obtain ⟨bs, r2⟩ := Dp.reads I e y u he ry
  exact SeqAt.ne_plain r1 r2 hc.1.1 hc.1.2 (room180 hr hc.2) ⟨.bl _, H, I, rfl, q⟩
theorem op_ltP {j : Nat} (hr : Room j X.A) : OpR X (compareOp .Lt) (rDat2 X.K ltC fun d e => dataLt d e) := by
  intro pins s σ H x y v u Q I rx ry h
  obtain ⟨d, e, hd, he, hc, q⟩ := h
  simp only [ltC, Bool.and_eq_true] at hc
  obtain ⟨as, r1⟩ := Dp.reads I d x v hd rx
  obtain ⟨bs, r2⟩ := Dp.reads I e y u he ry
  exact lt_data r1 r2 hc.1.1 (notNone_of hc.1.2) (room180 hr hc.2) ⟨.bl _, H, I, rfl, q⟩
theorem op_gtP {j : Nat} (hr : Room j X.A) : OpR X (compareOp .Gt) (rDat2 X.K ltC fun d e => dataLt e d) := by
  intro pins s σ H x y v u Q I rx ry h
  obtain ⟨d, e, hd, he, hc, q⟩ := h
  simp only [ltC, Bool.and_eq_true] at hc
  obtain ⟨as, r1⟩ := Dp.reads I d x v hd rx
  obtain ⟨bs, r2⟩ := Dp.reads I e y u he ry
  exact gt_data r1 r2 hc.1.1 (notNone_of hc.1.2) (room180 hr hc.2) ⟨.bl _, H, I, rfl, q⟩
theorem op_leP {j : Nat} (hr : Room j X.A) : OpR X (compareOp .LtE) (rDat2 X.K ltC fun d e => !dataLt e d) := by
  intro pins s σ H x y v u Q I rx ry h
  obtain ⟨d, e, hd, he, hc, q⟩ := h
  simp only [ltC, Bool.and_eq_true] at hc
  obtain ⟨as, r1⟩ := Dp.reads I d x v hd rx
  obtain ⟨bs, r2⟩ := Dp.reads I e y u he ry
  exact le_data r1 r2 hc.1.1 (notNone_of hc.1.2) (room180 hr hc.2) ⟨.bl _, H, I, rfl, q⟩
theorem op_geP {j : Nat} (hr : Room j X.A) : OpR X (compareOp .GtE) (rDat2 X.K ltC fun d e => !dataLt d e) := by
  intro pins s σ H x y v u Q I rx ry h
  obtain ⟨d, e, hd, he, hc, q⟩ := h
  simp only [ltC, Bool.and_eq_true] at hc
  obtain ⟨as, r1⟩ := Dp.reads I d x v hd rx
  obtain ⟨bs, r2⟩ := Dp.reads I e y u he ry
  exact ge_data r1 r2 hc.1.1 (notNone_of hc.1.2) (room180 hr hc.2) ⟨.bl _, H, I, rfl, q⟩
mutual
theorem pd_plain : ∀ (d : D) {p : PyData}, pd d = some p → p.plain = true
  | .val w, p, h => by cases w <;> simp only [pd, pdV, Option.some.injEq, reduceCtorEq] at h <;> subst h <;> rfl
  | .lst ds, p, h => by
    simp only [pd, Option.map_eq_some_iff] at h
    obtain ⟨ps, h, rfl⟩ := h
    simp only [PyData.plain]
    exact pds_plain ds h
  | .tup ds, p, h => by
    simp only [pd, Option.map_eq_some_iff] at h
    obtain ⟨ps, h, rfl⟩ := h
    simp only [PyData.plain]
    exact pds_plain ds h
theorem pds_plain : ∀ (ds : List D) {ps : List PyData}, pds ds = some ps → PyData.plainAll ps = true
  | [], ps, h => by
    simp only [pds, Option.some.injEq] at h
    subst h
    rfl
  | d :: ds, ps, h => by
    simp only [pds, Option.bind_eq_some_iff, Option.map_eq_some_iff] at h
    obtain ⟨p, h1, qs, h2, rfl⟩ := h
    simp only [PyData.plainAll, pd_plain d h1, pds_plain ds h2, Bool.and_self]
end
def eqP (a b : D) : Option D := (pd a).bind fun p => (pd b).bind fun q => if fitP p q = true then some (.bl (PyData.eqv p q)) else none
def neP (a b : D) : Option D := (pd a).bind fun p => (pd b).bind fun q => if fitP p q = true then some (.bl (!PyData.eqv p q)) else none
def ordP (f : PyData → PyData → Bool) (a b : D) : Option D := (pd a).bind fun p => (pd b).bind fun q => if ltC p q = true then some (.bl (f p q)) else none
def ltP := ordP fun d e => dataLt d e
def gtP := ordP fun d e => dataLt e d
def leP := ordP fun d e => !dataLt e d
def geP := ordP fun d e => !dataLt d e
theorem r2_dat {c f : PyData → PyData → Bool} {g : D → D → Option D} (hg : ∀ a b d, g a b = some d → ∃ p q, pd a = some p ∧ pd b = some q ∧ c p q = true ∧ d = .bl (f p q)) : R2M K (rDat2 K c f) g := fun x y a b d G H e ra rb h Q q => by
  obtain ⟨p1, p2, h1, h2, hc, rfl⟩ := hg a b d h
  exact ⟨p1, p2, dp_ex e p1 (dp_of a ra h1), dp_ex e p2 (dp_of b rb h2), hc, q _ G H (Wd.refl e) (.val _)⟩
theorem r2_eqP : R2M K (rDat2 K eqC PyData.eqv) eqP := r2_dat fun a b d h => by
  obtain ⟨p, h1, h⟩ := Option.bind_eq_some_iff.mp h
  obtain ⟨q, h2, h⟩ := Option.bind_eq_some_iff.mp h
  split at h
  · cases h
    exact ⟨p, q, h1, h2, by simp only [eqC, pd_plain a h1, pd_plain b h2, Bool.true_and]; assumption, rfl⟩
  · cases h
theorem r2_neP : R2M K (rDat2 K eqC fun d e => !PyData.eqv d e) neP := r2_dat fun a b d h => by
  obtain ⟨p, h1, h⟩ := Option.bind_eq_some_iff.mp h
  obtain ⟨q, h2, h⟩ := Option.bind_eq_some_iff.mp h
  split at h
  · cases h
    exact ⟨p, q, h1, h2, by simp only [eqC, pd_plain a h1, pd_plain b h2, Bool.true_and]; assumption, rfl⟩
  · cases h
theorem r2_ordP {f : PyData → PyData → Bool} : R2M K (rDat2 K ltC f) (ordP f) := r2_dat fun a b d h => by
  obtain ⟨p, h1, h⟩ := Option.bind_eq_some_iff.mp h
  obtain ⟨q, h2, h⟩ := Option.bind_eq_some_iff.mp h
  split at h
  · cases h
    exact ⟨p, q, h1, h2, by assumption, rfl⟩
  · cases h
theorem c_eqP {j : Nat} (hr : Room j X.A) {K : PySem.W.Frag} (hK : X.K = K := by rfl) : CR X .Eq (rDat2 K eqC PyData.eqv) eqP := by
  subst hK
  exact ⟨op_eqP hr, r2_eqP⟩
theorem c_neP {j : Nat} (hr : Room j X.A) {K : PySem.W.Frag} (hK : X.K = K := by rfl) : CR X .NotEq (rDat2 K eqC fun d e => !PyData.eqv d e) neP := by
  subst hK
  exact ⟨op_neP hr, r2_neP⟩
theorem c_ltP {j : Nat} (hr : Room j X.A) {K : PySem.W.Frag} (hK : X.K = K := by rfl) : CR X .Lt (rDat2 K ltC fun d e => dataLt d e) ltP := by
  subst hK
  exact ⟨op_ltP hr, r2_ordP⟩
theorem c_gtP {j : Nat} (hr : Room j X.A) {K : PySem.W.Frag} (hK : X.K = K := by rfl) : CR X .Gt (rDat2 K ltC fun d e => dataLt e d) gtP := by
  subst hK
  exact ⟨op_gtP hr, r2_ordP⟩
theorem c_leP {j : Nat} (hr : Room j X.A) {K : PySem.W.Frag} (hK : X.K = K := by rfl) : CR X .LtE (rDat2 K ltC fun d e => !dataLt e d) leP := by
  subst hK
  exact ⟨op_leP hr, r2_ordP⟩
theorem c_geP {j : Nat} (hr : Room j X.A) {K : PySem.W.Frag} (hK : X.K = K := by rfl) : CR X .GtE (rDat2 K ltC fun d e => !dataLt d e) geP := by
  subst hK
  exact ⟨op_geP hr, r2_ordP⟩

/-! ### in -/
def rMemP (K : PySem.W.Frag) (g : Bool → Bool) : R2 := fun x y H Q => (∃ (c : Nat) (z : Str), x = .str ⟨#[c]⟩ ∧ y = .str z ∧ Q (.bl (g (decide (c ∈ z.cps.toList)))) H) ∨
  ∃ d ds, Dp K H x d ∧ (Dp K H y (.list ds) ∨ Dp K H y (.tuple ds)) ∧ PyData.plainAll ds = true ∧ d.plain = true ∧ min (PyData.depthAll ds) d.depth ≤ 180 ∧ Q (.bl (g (ds.any fun z => PyData.eqv z d))) H
theorem op_inP {j : Nat} (hr : Room j X.A) : OpR X (compareOp .In) (rMemP X.K id) := by
  refine op_in_sign.or ?_
  intro pins s σ H x y v u Q I rx ry h
  obtain ⟨d, ds, hd, he, p1, p2, hm, q⟩ := h
  have hu := hr.un
  obtain ⟨as, r1⟩ := Dp.reads I d x v hd rx
  rcases he with he | he
  · obtain ⟨bs, r2⟩ := Dp.reads I (.list ds) y u he ry
    exact SeqAt.in_list_data r2 r1 p1 p2 (by omega) ⟨.bl _, H, I, rfl, q⟩
  · obtain ⟨bs, r2⟩ := Dp.reads I (.tuple ds) y u he ry
    exact SeqAt.in_tuple_data r2 r1 p1 p2 (by omega) ⟨.bl _, H, I, rfl, q⟩
theorem op_ninP {j : Nat} (hr : Room j X.A) : OpR X (compareOp .NotIn) (rMemP X.K (!·)) := by
  refine op_notIn_sign.or ?_
  intro pins s σ H x y v u Q I rx ry h
  obtain ⟨d, ds, hd, he, p1, p2, hm, q⟩ := h
  have hu := hr.un
  obtain ⟨as, r1⟩ := Dp.reads I d x v hd rx
  rcases he with he | he
  · obtain ⟨bs, r2⟩ := Dp.reads I (.list ds) y u he ry
    exact SeqAt.notIn_list_data r2 r1 p1 p2 (by omega) ⟨.bl _, H, I, rfl, q⟩
  · obtain ⟨bs, r2⟩ := Dp.reads I (.tuple ds) y u he ry
    exact SeqAt.notIn_tuple_data r2 r1 p1 p2 (by omega) ⟨.bl _, H, I, rfl, q⟩
def seqD : D → Option (List D)
  | .lst ds => some ds
  | .tup ds => some ds
  | _ => none
def memSeq (a b : D) : Option Bool := (seqD b).bind fun ds => (pds ds).bind fun ps => (pd a).bind fun p => if min (PyData.depthAll ps) p.depth ≤ 180 then some (ps.any fun z => PyData.eqv z p) else none
def memP : D → D → Option Bool
  | .val (.str x), .val (.str y) => if x.cps.size = 1 then some (decide (x.cps.getD 0 0 ∈ y.cps.toList)) else none
  | a, b => memSeq a b
def inP (a b : D) : Option D := (memP a b).map .bl
def ninP (a b : D) : Option D := (memP a b).map fun k => .bl (!k)
theorem r_memP {G H : Hp} {g : Bool → Bool} {x y : V} {a b : D} {k : Bool} (e : Ex G H) (ra : Rp K G x a) (rb : Rp K G y b) (h : memP a b = some k) {Q : VK} (q : Q (.bl (g k)) H) : rMemP K g x y H Q := by
  unfold memP at h
  split at h
  · split at h
    · cases h
      cases rp_val ra
      cases rp_val rb
      exact .inl ⟨_, _, by rw [← one_sign (by assumption)], rfl, q⟩
    · cases h
  · obtain ⟨ds, h0, h⟩ := Option.bind_eq_some_iff.mp h
    obtain ⟨ps, h1, h⟩ := Option.bind_eq_some_iff.mp h
    obtain ⟨p, h2, h⟩ := Option.bind_eq_some_iff.mp h
    split at h
    · rename_i hz
      cases h
      refine .inr ⟨p, ps, dp_ex e p (dp_of _ ra h2), ?_, pds_plain _ h1, pd_plain _ h2, hz, q⟩
      unfold seqD at h0
      split at h0
      · cases h0
        obtain ⟨l, vs, rfl, s1, r1⟩ := rp_lst rb
        exact .inl (.lst (ex_l e s1) (dpAll_ex e ps (dpAll_of _ r1 h1)))
      · cases h0
        obtain ⟨l, vs, rfl, s1, r1⟩ := rp_tup rb
        exact .inr (.tup (ex_t e s1) (dpAll_ex e ps (dpAll_of _ r1 h1)))
      · cases h0
    · cases h
theorem r2_inP : R2M K (rMemP K id) inP := fun x y a b d G H e ra rb h Q q => by
  obtain ⟨k, hk, rfl⟩ := Option.map_eq_some_iff.mp h
  exact r_memP e ra rb hk (q _ G H (Wd.refl e) (.val _))
theorem r2_ninP : R2M K (rMemP K (!·)) ninP := fun x y a b d G H e ra rb h Q q => by
  obtain ⟨k, hk, rfl⟩ := Option.map_eq_some_iff.mp h
  exact r_memP (g := (!·)) e ra rb hk (q _ G H (Wd.refl e) (.val _))
theorem c_inP {j : Nat} (hr : Room j X.A) {K : PySem.W.Frag} (hK : X.K = K := by rfl) : CR X .In (rMemP K id) inP := by
  subst hK
  exact ⟨op_inP hr, r2_inP⟩
theorem c_ninP {j : Nat} (hr : Room j X.A) {K : PySem.W.Frag} (hK : X.K = K := by rfl) : CR X .NotIn (rMemP K (!·)) ninP := by
  subst hK
  exact ⟨op_ninP hr, r2_ninP⟩

/-! ### l.index(x), l.count(x) -/
def idxL (ps : List PyData) (p : PyData) : Option Nat := ps.findIdx? fun z => PyData.eqv z p
def idxP : D → List D → Option D
  | .lst ds, [a] => (pds ds).bind fun ps => (pd a).bind fun p => if SeqAt.shaped (.list ps) = true ∧ SeqAt.shaped p = true then (idxL ps p).map fun (j : Nat) => D.int (j : Int) else none
  | _, _ => none
theorem rm_idxP : RMM K "list" (rIndexD K) idxP := fun x xs a as d h => by
  unfold idxP at h
  split at h
  · rename_i ds b
    obtain ⟨ps, h1, h⟩ := Option.bind_eq_some_iff.mp h
    obtain ⟨p, h2, h⟩ := Option.bind_eq_some_iff.mp h
    split at h
    · rename_i hs
      obtain ⟨j, h3, rfl⟩ : ∃ j : Nat, idxL ps p = some j ∧ D.int (j : Int) = d := by
        cases hx : idxL ps p with
        | none => rw [hx] at h; cases h
        | some j => rw [hx] at h; exact ⟨j, rfl, Option.some.inj h⟩
      refine ⟨fun G H e r => ?_, fun G H e r rs Q q => ?_⟩
      · obtain ⟨l, vs, rfl, s1, r1⟩ := rp_lst r
        exact .inl ⟨rfl, vs, ex_l e s1⟩
      · obtain ⟨v, rfl, rv⟩ := rps_one rs
        obtain ⟨l, vs, rfl, s1, r1⟩ := rp_lst r
        unfold idxL at h3
        rw [List.findIdx?_eq_some_iff_getElem] at h3
        obtain ⟨hj, h4, h5⟩ := h3
        refine ⟨l, v, p, ps, j, ps[j], rfl, rfl, .lst (ex_l e s1) (dpAll_ex e ps (dpAll_of _ r1 h1)), dp_ex e p (dp_of _ rv h2), hs.1, hs.2, List.getElem?_eq_getElem hj, h4, fun m z hm hz => ?_, q _ G H (Wd.refl e) (.val _)⟩
        obtain ⟨hm2, rfl⟩ := List.getElem?_eq_some_iff.mp hz
        have := h5 m hm
        simpa using this
    · cases h
  · cases h
theorem m_index {j : Nat} (hr : Room (j + 1) X.A) {K : PySem.W.Frag} (hK : X.K = K := by rfl) : MR X "list" "index" "list.index" (rIndexD K) idxP := by
  subst hK
  exact ⟨PySem.F.plainAttrs_list, PySem.F.slot_list_index, PySem.F.type_list_index, mt_indexD (room65 hr (by omega)), rm_idxP⟩
def rCountD (K : PySem.W.Frag) : V → List V → Hp → VK → Prop := fun x xs H Q => ∃ (y : V) (d : PyData) (ds : List PyData), xs = [y] ∧ Dp K H x (.list ds) ∧ Dp K H y d ∧ PyData.plainAll ds = true ∧ d.plain = true ∧ min (PyData.depthAll ds) d.depth ≤ 180 ∧
  Q (.int ((ds.countP fun z => PyData.eqv z d : Nat) : Int)) H
theorem mt_countD {j : Nat} (hr : Room j X.A) : MtR X "list.count" (rCountD X.K) := by
  intro pins s σ H x xs v us Q I rx rxs h
  obtain ⟨y, d, ds, rfl, hl, hy, p1, p2, hm, q⟩ := h
  obtain ⟨uy, rfl, ry⟩ := rxs.one
  have hu := hr.un
  obtain ⟨as, r1⟩ := Dp.reads I d y uy hy ry
  obtain ⟨bs, r2⟩ := Dp.reads I (.list ds) x v hl rx
  cases r2 with
  | list h1 h2 h3 h4 =>
    exact SeqAt.count_list_data ⟨_, h1, h2, _, h3⟩ h4 r1 p1 p2 (by omega) ⟨.int _, H, I.tok _, ⟨_, rfl⟩, q⟩
def cntP : D → List D → Option D
  | .lst ds, [a] => (pds ds).bind fun ps => (pd a).bind fun p => if min (PyData.depthAll ps) p.depth ≤ 180 then some (.int ((ps.countP fun z => PyData.eqv z p : Nat) : Int)) else none
  | _, _ => none
theorem rm_cntP : RMM K "list" (rCountD K) cntP := fun x xs a as d h => by
  unfold cntP at h
  split at h
  · rename_i ds b
    obtain ⟨ps, h1, h⟩ := Option.bind_eq_some_iff.mp h
    obtain ⟨p, h2, h⟩ := Option.bind_eq_some_iff.mp h
    split at h
    · rename_i hs
      cases h
      refine ⟨fun G H e r => ?_, fun G H e r rs Q q => ?_⟩
      · obtain ⟨l, vs, rfl, s1, r1⟩ := rp_lst r
        exact .inl ⟨rfl, vs, ex_l e s1⟩
      · obtain ⟨v, rfl, rv⟩ := rps_one rs
        obtain ⟨l, vs, rfl, s1, r1⟩ := rp_lst r
        exact ⟨v, p, ps, rfl, .lst (ex_l e s1) (dpAll_ex e ps (dpAll_of _ r1 h1)), dp_ex e p (dp_of _ rv h2), pds_plain _ h1, pd_plain _ h2, hs, q _ G H (Wd.refl e) (.val _)⟩
    · cases h
  · cases h
theorem m_count {j : Nat} (hr : Room j X.A) {K : PySem.W.Frag} (hK : X.K = K := by rfl) : MR X "list" "count" "list.count" (rCountD K) cntP := by
  subst hK
  exact ⟨PySem.F.plainAttrs_list, PySem.F.slot_list_count, PySem.F.type_list_count, mt_countD hr, rm_cntP⟩

/-! ### min(a, b) -/
def minD : List D → Option D
  | [.val (.int i), .val (.int j)] => some (.int (if j < i then j else i))
  | _ => none
theorem rc_min : RCM K (fun xs H Q => ∃ i j, xs = [.int i, .int j] ∧ Q (.int (if j < i then j else i)) H) minD := fun xs as d G H e r h Q q => by
  unfold minD at h
  split at h
  · cases h
    obtain ⟨v, u, rfl, r1, r2⟩ := rps_two r
    cases rp_val r1
    cases rp_val r2
    exact ⟨_, _, rfl, q _ G H (Wd.refl e) (.val _)⟩
  · cases h
theorem b_min (hc : X.calm = true := by rfl) : BR X (.builtin "min") (fun xs H Q => ∃ i j, xs = [.int i, .int j] ∧ Q (.int (if j < i then j else i)) H) minD := ⟨call_min2 hc, rc_min⟩

/-! ### x or y, x and y, of any values -/
variable {a b e : Expr} {ta tb te : TE} {ma mb me : ME} {pos : Pos} {rest : List Expr}
def mOrT (a b : ME) : ME := fun ρ => (a ρ).bind fun x => (truD x).bind fun k => if k = true then some x else b ρ
theorem j_orT (ha : JE X a ta ma) (hb : JE X (.BoolOp .Or (b :: rest) pos) tb mb) {K : PySem.W.Frag} (hK : X.K = K := by rfl) : JE X (.BoolOp .Or (a :: b :: rest) pos) (tOrT K ta tb) (mOrT ma mb) := by
  subst hK
  refine ⟨pe_orT ha.p hb.p, fun ρ d q G0 H0 G H σ c Q z => ?_⟩
  obtain ⟨x, e1, q⟩ := Option.bind_eq_some_iff.mp q
  obtain ⟨k, e2, q⟩ := Option.bind_eq_some_iff.mp q
  refine ha.m ρ x e1 G0 H0 G H σ c _ fun v G1 H1 w r => ⟨k, tru_of w.s r e2, ?_⟩
  cases k with
  | true =>
    cases q
    exact iteT (z v G1 H1 w r)
  | false => exact iteF (hb.m ρ d q G0 H0 G1 H1 σ (c.mono w) Q fun v G2 H2 w2 r2 => z v G2 H2 (w.trans w2) r2)
def mAndT (a b : ME) : ME := fun ρ => (a ρ).bind fun x => (truD x).bind fun k => if k = true then b ρ else some x
theorem j_andT (ha : JE X a ta ma) (hb : JE X (.BoolOp .And (b :: rest) pos) tb mb) {K : PySem.W.Frag} (hK : X.K = K := by rfl) : JE X (.BoolOp .And (a :: b :: rest) pos) (tAndT K ta tb) (mAndT ma mb) := by
  subst hK
  refine ⟨pe_andT ha.p hb.p, fun ρ d q G0 H0 G H σ c Q z => ?_⟩
  obtain ⟨x, e1, q⟩ := Option.bind_eq_some_iff.mp q
  obtain ⟨k, e2, q⟩ := Option.bind_eq_some_iff.mp q
  refine ha.m ρ x e1 G0 H0 G H σ c _ fun v G1 H1 w r => ⟨k, tru_of w.s r e2, ?_⟩
  cases k with
  | false =>
    cases q
    exact iteF (z v G1 H1 w r)
  | true => exact iteT (hb.m ρ d q G0 H0 G1 H1 σ (c.mono w) Q fun v G2 H2 w2 r2 => z v G2 H2 (w.trans w2) r2)
end

/-! ### sorted(xs) -/
section
variable {X : Cx} {K : PySem.W.Frag}
def leZ {α : Type} (a b : α × PyData) : Bool := !dataLt b.2 a.2
def sortZ {α : Type} (l : List (α × PyData)) : List α := (l.mergeSort leZ).map (·.1)
def rSortN (K : PySem.W.Frag) : List V → Hp → VK → Prop := fun xs H Q => ∃ (a : Addr) (vs : List V) (ds : List PyData), xs = [.ref a] ∧ SqL K H a vs ∧ DpAll K H vs ds ∧ AllAlike ds ∧ Sortable ds ∧ (∀ d ∈ ds, d.depth ≤ 180) ∧
  ∀ p, H p = none → Q (.ref p) (upd H p (.lst (sortZ (vs.zip ds))))
theorem each_readsAll {h : Heap} : ∀ {us : List Value} {ds : List PyData} {as : List Addr}, ReadsAll h us ds as → EachIs (fun v d => ∃ as, Reads h v d as) us ds
  | _, _, _, .nil => .nil
  | _, _, _, .cons r t => .cons ⟨_, r⟩ (each_readsAll t)
theorem dpAll_len {H : Hp} : ∀ {vs : List V} {ds : List PyData}, DpAll K H vs ds → vs.length = ds.length
  | _, _, .nil => rfl
  | _, _, .cons _ t => by rw [List.length_cons, List.length_cons, dpAll_len t]
theorem each_zip {R : Value × Value → V × PyData → Prop} : ∀ {us : List Value} {vs : List V} {ds : List PyData}, Vals vs us → vs.length = ds.length → (∀ u v d, (u, d) ∈ us.zip ds → RelV v u → R (u, u) (v, d)) → EachIs R (us.zip us) (vs.zip ds)
  | _, _, [], .nil, _, _ => .nil
  | _, _, _ :: _, .nil, h, _ => by cases h
  | _, _, [], .cons _ _, h, _ => by cases h
  | _, _, d :: ds, .cons r t, h, hr => by
    rw [List.zip_cons_cons, List.zip_cons_cons]
    exact .cons (hr _ _ _ (by rw [List.zip_cons_cons]; exact List.mem_cons_self) r) (each_zip t (by simpa using h) fun u v d hm => hr u v d (by rw [List.zip_cons_cons]; exact List.mem_cons_of_mem _ hm))
theorem each_vals {R : Value × Value → V × PyData → Prop} (hR : ∀ p q, R p q → RelV q.1 p.2) : ∀ {l : List (Value × Value)} {m : List (V × PyData)}, EachIs R l m → Vals (m.map (·.1)) (l.map Prod.snd)
  | _, _, .nil => .nil
  | _, _, .cons r t => .cons (hR _ _ r) (each_vals hR t)
theorem cr_sortN {j : Nat} (hr : Room j X.A) : CallR X (.builtin "sorted") (rSortN X.K) := by
  intro pins s σ H xs us Q I r h
  obtain ⟨a, vs, ds, rfl, hs, hd, hal, hso, hdp, q⟩ := h
  obtain ⟨its, rv, hl, hz⟩ := I.list hs
  obtain ⟨u, rfl, r1⟩ := vals1 r
  cases (show u = Value.ref a from r1)
  obtain ⟨as, ra⟩ := Dp.readsAll I ds vs its hd rv
  have hu := hr.un
  have hlen : vs.length = ds.length := dpAll_len hd
  have hli : its.length ≤ sizeLine := by rw [← rv.length]; exact hz
  have er := each_readsAll ra
  let s' : Shared := { s with heap := sortingHeap (copyHeap s.heap its) (s.heap.objs.size + 1) its }
  have er' : EachIs (fun v d => ∃ as, Reads s'.heap v d as) its ds := er.mono fun v d ⟨as, r⟩ => ⟨as, Reads.keeps (fun b o e => sorting_copy_old e) r⟩
  have S : SortsAt X.prog X.w X.A.in1.in1 s' (dataKind s'.heap ds) its := SortsAt.data (s := s') er' hal hso fun d hm => by
    have := hdp d hm
    show X.A.units + 1 + 1 + d.depth < cLine
    omega
  refine sorted_vals hl.isList S hli ?_
  have key : ∀ u d, (u, d) ∈ its.zip ds → keyD (dataKind s'.heap ds) u = keyToks d := fun u d hm => by
    obtain ⟨as, r⟩ := er'.zip _ hm
    exact keyD_some (dataKind_some hal (List.of_mem_zip hm).2 r)
  have ez : EachIs (fun (p : Value × Value) (q : V × PyData) => RelV q.1 p.2 ∧ keyD (dataKind s'.heap ds) p.1 = keyToks q.2) (its.zip its) (vs.zip ds) :=
    each_zip rv hlen fun u v d hm hv => ⟨hv, key u d hm⟩
  have es : EachIs (fun (p : Value × Value) (q : V × PyData) => RelV q.1 p.2 ∧ keyD (dataKind s'.heap ds) p.1 = keyToks q.2) ((its.zip its).mergeSort (sortLe (dataKind s'.heap ds).toKeyOrd false fun p : Keyed => keyD (dataKind s'.heap ds) p.1)) ((vs.zip ds).mergeSort leZ) :=
    sort_each ez fun p hp p2 hp2 => by
      have h1 := (ez.zip _ hp).2
      have h2 := (ez.zip _ hp2).2
      show (!(dataKind s'.heap ds).toKeyOrd.blt (keyD _ p2.1.1) (keyD _ p.1.1)) = (!dataLt p2.2.2 p.2.2)
      rw [h1, h2]
      rfl
  have rvo : Vals (sortZ (vs.zip ds)) (sortVals (dataKind s'.heap ds) false its its) := each_vals (fun p q h => h.1) es
  obtain ⟨ep, he'⟩ := PyProof.Rows.sortedAll_at s.heap its (sortVals (dataKind s'.heap ds) false its its).toArray
  have hlz : (sortZ (vs.zip ds)).length ≤ sizeLine := by
    unfold sortZ
    rw [List.length_map, List.length_mergeSort, List.length_zip]
    exact Nat.le_trans (Nat.min_le_left _ _) hz
  exact ⟨.ref _, upd H (s.heap.objs.size + 1) (.lst _), I.laid (t' := s.toks) (fun _ _ => PyProof.Rows.sortedAll_old) (Nat.le_succ _) ⟨hlz, _, ep, rvo, he'⟩, rfl, q _ (I.hok.fresh (Nat.le_succ _))⟩
def isTupNE : PyData → Bool
  | .tuple (_ :: _) => true
  | _ => false
def isTupP : PyData → Bool
  | .tuple _ => true
  | _ => false
def sortOk (ps : List PyData) : Bool := ps.all (fun p => ps.all fun q => alike p q) && (ps.all isTupNE || ps.all fun p => notNoneP p && !isTupP p) && ps.all fun p => decide (p.depth ≤ 180)
theorem sortOk_of {ps : List PyData} (h : sortOk ps = true) : AllAlike ps ∧ Sortable ps ∧ ∀ d ∈ ps, d.depth ≤ 180 := by
  simp only [sortOk, Bool.and_eq_true, Bool.or_eq_true, List.all_eq_true, decide_eq_true_eq] at h
  obtain ⟨⟨h1, h2⟩, h3⟩ := h
  refine ⟨fun d hd d' hd' => h1 d hd d' hd', ?_, h3⟩
  rcases h2 with h2 | h2
  · refine .inl fun d hd => ?_
    have := h2 d hd
    unfold isTupNE at this
    split at this
    · exact ⟨_, _, rfl⟩
    · cases this
  · refine .inr fun d hd => ⟨notNone_of (h2 d hd).1, fun xs e => ?_⟩
    have := (h2 d hd).2
    rw [e] at this
    cases this
def sortND : List D → Option D
  | [.lst ds] => (pds ds).bind fun ps => if sortOk ps = true then some (.lst (sortZ (ds.zip ps))) else none
  | _ => none
theorem rps_zip {G : Hp} : ∀ {vs : List V} {ds : List D} {ps : List PyData}, Rps K G vs ds → EachIs (fun (p : V × PyData) (q : D × PyData) => Rp K G p.1 q.1 ∧ p.2 = q.2) (vs.zip ps) (ds.zip ps)
  | _, _, _, .nil => by rw [List.zip_nil_left, List.zip_nil_left]; exact .nil
  | _, _, [], .cons _ _ => by rw [List.zip_nil_right, List.zip_nil_right]; exact .nil
  | _, _, p :: ps, .cons r t => by
    rw [List.zip_cons_cons, List.zip_cons_cons]
    exact .cons ⟨r, rfl⟩ (rps_zip t)
theorem each_rps {G : Hp} : ∀ {l : List (V × PyData)} {m : List (D × PyData)}, EachIs (fun (p : V × PyData) (q : D × PyData) => Rp K G p.1 q.1 ∧ p.2 = q.2) l m → Rps K G (l.map (·.1)) (m.map (·.1))
  | _, _, .nil => .nil
  | _, _, .cons r t => .cons r.1 (each_rps t)
theorem rc_sortN : RCM K (rSortN K) sortND := fun xs as d G H e r h Q q => by
  unfold sortND at h
  split at h
  · obtain ⟨ps, h1, h⟩ := Option.bind_eq_some_iff.mp h
    split at h
    · rename_i ho
      cases h
      obtain ⟨v, rfl, r0⟩ := rps_one r
      obtain ⟨p, vs, rfl, s1, r1⟩ := rp_lst r0
      obtain ⟨o1, o2, o3⟩ := sortOk_of ho
      refine ⟨p, vs, ps, rfl, ex_l e s1, dpAll_ex e ps (dpAll_of _ r1 h1), o1, o2, o3, ?_⟩
      have ez := rps_zip (ps := ps) r1
      have es := sort_each (r := leZ) (s := leZ) ez fun x hx y hy => by
        have a1 := (ez.zip _ hx).2
        have a2 := (ez.zip _ hy).2
        show (!dataLt y.1.2 x.1.2) = (!dataLt y.2.2 x.2.2)
        rw [a1, a2]
      exact new_lst e (each_rps es) q
    · cases h
  · cases h
theorem b_sortN {j : Nat} (hr : Room j X.A) {K : PySem.W.Frag} (hK : X.K = K := by rfl) : BR X (.builtin "sorted") (rSortN K) sortND := by
  subst hK
  exact ⟨cr_sortN hr, rc_sortN⟩
end
end DD

set_option Elab.async false
set_option linter.all false
set_option maxRecDepth 100000
set_option maxHeartbeats 4000000
/-! DD20: dicts of a def's own whose keys are tuples of any data. -/
namespace DD
open PySem PySem.Spec PyProof.Rows L2 Evl PySem.W
section
variable {X : Cx} {pins : List (Addr × Obj)} {σ : L2.St} {H : Hp} {s : Shared}
mutual
theorem nested_of (I : Inv X pins σ H s) {G : Hp} (e : Ex G H) : ∀ (d : D) {v : V} {u : Value} {k : NestedKey}, Rp X.K G v d → nk d = some k → RelV v u → NestedIs s.heap k u
  | .val w, v, u, k, r, h, ru => by
    cases r
    cases w with
    | non => cases h; cases ru; exact .none
    | bl b => cases h; cases ru; exact .bool rfl
    | int i => cases h; obtain ⟨t, rfl⟩ := ru; exact .int i t
    | str x => cases h; obtain ⟨t, rfl⟩ := ru; exact .text x t
    | byt b => cases h
    | flt b => cases h
    | ref b => cases h
    | ty b => cases h
  | .lst ds, v, u, k, r, h, ru => by cases h
  | .tup ds, v, u, k, r, h, ru => by
    simp only [nk, Option.map_eq_some_iff] at h
    obtain ⟨ks, h, rfl⟩ := h
    obtain ⟨a, vs, rfl, s1, r1⟩ := rp_tup r
    cases ru
    obtain ⟨its, rv, ⟨o, g, c, n, d⟩, _⟩ := I.tuple (ex_t e s1)
    exact .tup g c d (by simpa using nestedAll_of I e ds r1 h rv)
theorem nestedAll_of (I : Inv X pins σ H s) {G : Hp} (e : Ex G H) : ∀ (ds : List D) {vs : List V} {us : List Value} {ks : List NestedKey}, Rps X.K G vs ds → nks ds = some ks → Vals vs us → NestedAll s.heap ks us
  | [], _, _, _, r, h, rv => by
    cases r
    cases rv
    simp only [nks, Option.some.injEq] at h
    subst h
    exact .nil
  | d :: ds, _, _, _, r, h, rv => by
    simp only [nks, Option.bind_eq_some_iff, Option.map_eq_some_iff] at h
    obtain ⟨k, h1, ks, h2, rfl⟩ := h
    cases r with
    | cons r1 r2 =>
      cases rv with
      | cons v1 v2 => exact .cons (nested_of I e d r1 h1 v1) (nestedAll_of I e ds r2 h2 v2)
end
/-- the tuple at b is the key k -/
def KeyAt (K : PySem.W.Frag) (H : Hp) (b : Addr) (k : NestedKey) : Prop := ∃ G d, Ex G H ∧ Rp K G (.ref b) d ∧ nk d = some k ∧ k.depth ≤ 8
theorem KeyAt.is (I : Inv X pins σ H s) {b : Addr} {k : NestedKey} (h : KeyAt X.K H b k) : (nestedKind X.prog X.w).is s.heap k b := by
  obtain ⟨G, d, e, r, hk, hd⟩ := h
  exact ⟨nested_of I e d r hk rfl, hd⟩
theorem nd_ok {P : Program} {w : World} {H : Hp} {h : Heap} {a : Addr} {xs : List (NestedKey × Addr × Value)} (hl : xs.length ≤ sizeLine) (hs : (a == sysModules) = false) (hx : ∃ o es ep, h.get? a = some o ∧ o.ExactDict ∧ o.data = .dict es ep ∧ es.toList = xs.map (entryOfKey (nestedKind P w)) ∧ (xs.map (·.1)).Nodup) :
    ObjOk P w H h a (NDict P w a xs) := by
  refine ⟨⟨hl, hs, hx⟩, let ⟨o, _, _, e, _⟩ := hx; ⟨o, e⟩, fun h1 h2 ⟨p, p2, o, es, ep, q1, q2⟩ k => ⟨p, p2, o, es, ep, k o q1, q2⟩⟩
theorem nd_of (I : Inv X pins σ H s) {a : Addr} {xs : List (NestedKey × Addr × Value)} (e : H a = some (NDict X.prog X.w a xs)) : xs.length ≤ sizeLine ∧ (a == sysModules) = false ∧
    ∃ o es ep, s.heap.get? a = some o ∧ o.ExactDict ∧ o.data = .dict es ep ∧ es.toList = xs.map (entryOfKey (nestedKind X.prog X.w)) ∧ (xs.map (·.1)).Nodup := (I.hok a _ e).1
theorem nd_dict (I : Inv X pins σ H s) {a : Addr} {xs : List (NestedKey × Addr × Value)} (e : H a = some (NDict X.prog X.w a xs)) (hk : ∀ x ∈ xs, KeyAt X.K H x.2.1 x.1) : s.heap.DictOfH (nestedKind X.prog X.w) a xs := by
  obtain ⟨_, _, o, es, ep, h1, h2, h3, h4, h5⟩ := nd_of I e
  exact ⟨o, es, ep, h1, h2, h3, h4, fun x hx => (hk x hx).is I, h5⟩
end
section
variable {X : Cx}
/-! ### {} -/
def tDNewN (P : Program) (w : World) : TE := fun _ H Q => ∀ p, H p = none → Q (.ref p) (upd H p (NDict P w p []))
theorem pe_dnewN {pos : Pos} : PE X (.Dict [] [] pos) (tDNewN X.prog X.w) := ⟨fun pins s σ H Q I h =>
  wpAny_Dict_empty ⟨.ref s.heap.objs.size, _, I.laid (a := s.heap.objs.size) (o := NDict X.prog X.w s.heap.objs.size []) (t' := s.toks) (fun _ _ q => Heap.get?_push_of_some _ q) (Nat.le_refl _)
    (nd_ok (Nat.zero_le _) (beq_eq_false_iff_ne.mpr (Ne.symm (Nat.ne_of_lt I.big))) ⟨_, #[], 0, Heap.get?_push_size _ rfl, ⟨rfl, rfl, rfl⟩, rfl, rfl, List.nodup_nil⟩), rfl, h _ (I.hok.fresh (Nat.le_refl _))⟩⟩
/-! ### d[k] = v -/
def rSetN (P : Program) (w : World) (K : PySem.W.Frag) : TSet := fun o i v H Q => ∃ (d b : Addr) (xs : List (NestedKey × Addr × Value)) (k : NestedKey), o = .ref d ∧ i = .ref b ∧ H d = some (NDict P w d xs) ∧ xs.length < sizeLine ∧ KeyAt K H b k ∧ (∀ x ∈ xs, KeyAt K H x.2.1 x.1) ∧
  ∀ u, RelV v u → Q (upd H d (NDict P w d (storedH xs k b u)))
theorem storedH_le (xs : List (NestedKey × Addr × Value)) (k : NestedKey) (b : Addr) (u : Value) : (storedH xs k b u).length ≤ xs.length + 1 := by
  unfold storedH
  split
  · rw [List.length_map]; omega
  · rw [List.length_append, List.length_cons, List.length_nil]; omega
theorem set_nd {j : Nat} (hr : Room j X.A) : PSet X (rSetN X.prog X.w X.K) := by
  intro pins s σ H o i v ov iv u Q I ro ri rv h
  obtain ⟨d, b, xs, k, rfl, rfl, e, hl, hk, hks, q⟩ := h
  cases ro
  cases ri
  have hu := hr.un
  obtain ⟨hz, hd, _⟩ := nd_of I e
  refine wpAny_setItem_heap (hsz := hz) (show X.A.units + 1 + 8 < cLine by omega) (hk.is I) (nd_dict I e hks) fun h' dd' hs => ?_
  obtain ⟨qo, es, ep, hq, h2, h3, h4, _, h5⟩ := dd'
  exact ⟨_, d_write I (by rw [e]; exact True.intro) hs ⟨qo, hq⟩ (nd_ok (by have := storedH_le xs k b u; omega) hd ⟨qo, es, ep, hq, h2, h3, h4, h5⟩), q u rv⟩
/-! ### d[k] -/
def rIxN (P : Program) (w : World) (K : PySem.W.Frag) : R2 := fun x y H Q => ∃ (d b : Addr) (xs : List (NestedKey × Addr × Value)) (k : NestedKey) (p : Addr × Value) (v : V), x = .ref d ∧ y = .ref b ∧ H d = some (NDict P w d xs) ∧ KeyAt K H b k ∧ (∀ x ∈ xs, KeyAt K H x.2.1 x.1) ∧
  atKey xs k = some p ∧ RelV v p.2 ∧ Q v H
theorem pe_dixN {j : Nat} (hr : Room j X.A) {o i : Expr} {td ty : TE} {pos : Pos} (ho : PE X o td) (hi : PE X i ty) (hs : NoSl i) : PE X (.Subscript o i pos) (tOp (rIxN X.prog X.w X.K) td ty) := by
  refine ⟨fun pins s σ H Q I h => ?_⟩
  refine subD_of PySem.F.slot_dict_getitem.lookup hs (thn (ho.run pins s σ H _ I h) fun ov s1 ⟨x, H1, I1, r1, q1⟩ => thn (hi.run pins s1 σ H1 _ I1 q1) fun iv s2 ⟨y, H2, I2, r2, q2⟩ => ?_)
  obtain ⟨d, b, xs, k, p, v, rfl, rfl, e, hk, hks, hp, rv, q⟩ := q2
  cases r1
  cases r2
  have hu := hr.un
  have hd := nd_dict I2 e hks
  exact ⟨hd.typeIs, wpAny_getItem_heap (show X.A.units + 1 + 8 < cLine by omega) (hk.is I2) hd hp ⟨v, H2, I2.tok _, rv, q⟩⟩
/-! ### list(d) -/
def rListN (P : Program) (w : World) : List V → Hp → VK → Prop := fun ys H Q => ∃ (d : Addr) (xs : List (NestedKey × Addr × Value)), ys = [.ref d] ∧ H d = some (NDict P w d xs) ∧ ∀ q, H q = none → Q (.ref q) (upd H q (.lst (xs.map fun x => V.ref x.2.1)))
theorem call_listN (hc : X.calm = true) : CallR X (.type "list") (rListN X.prog X.w) := by
  intro pins s σ H ys us Q I r h
  obtain ⟨d, xs, rfl, e, q⟩ := h
  obtain ⟨u, rfl, rx⟩ := vals1 r
  obtain rfl : u = Value.ref d := rx
  obtain ⟨hz, hd, o, es, ep, h1, h2, h3, h4, h5⟩ := nd_of I e
  have hes : es.size = xs.length := by
    have := congrArg List.length h4
    simpa using this
  refine PySem.W.kdl_call (KdlSrc.rawDict (es := es) (ep := ep) hd) (I.ok.hd hc) ⟨o, h1, h2, h3⟩ (by rw [hes]; exact hz) fun h' tk acc' c' hkeep hS hacc => ?_
  refine ⟨.ref s.heap.objs.size, upd H s.heap.objs.size (.lst (xs.map fun x => V.ref x.2.1)), I.laid hkeep (Nat.le_refl _) (show ObjOk X.prog X.w _ _ _ (.lst (xs.map fun x => V.ref x.2.1)) from ⟨?_, acc'.toList, c', ?_, ?_⟩), rfl, q _ (I.hok.fresh (Nat.le_refl _))⟩
  · rw [List.length_map]; exact hz
  · have el : acc'.toList.length = acc'.size := by simp
    refine vals_of_at (by rw [List.length_map, el, hacc.1, hes]) fun j x w' g1 g2 => ?_
    obtain ⟨hi, hv⟩ := hacc.2 j w' (by rw [← Array.getElem?_toList]; exact g2)
    have e1 : es.toList[j]? = some es[j] := by rw [Array.getElem?_toList]; exact Array.getElem?_eq_getElem hi
    rw [h4, List.getElem?_map] at e1
    obtain ⟨z, hz1, hz2⟩ := Option.map_eq_some_iff.mp e1
    rw [List.getElem?_map, hz1] at g1
    cases g1
    rw [hv, ← hz2]
    rfl
  · rw [Array.toArray_toList]; exact hS
end

/-! ### the meanings -/
open Classical in
noncomputable def odOf (P : Program) (w : World) (i : Nat) (ρ : DEnv) : Option (List (D × D)) := match ρ[i]? with
  | some (.od P' w' kvs) => if P' = P ∧ w' = w then some kvs else none
  | _ => none
theorem odOf_eq {P : Program} {w : World} {i : Nat} {ρ : DEnv} {kvs : List (D × D)} (h : odOf P w i ρ = some kvs) : ρ[i]? = some (.od P w kvs) := by
  unfold odOf at h
  split at h
  · rename_i P' w' kvs' e
    split at h
    · rename_i hc
      cases h
      rw [e, hc.1, hc.2]
    · cases h
  · cases h
theorem odOf_at {P : Program} {w : World} {i : Nat} {ρ : DEnv} {kvs : List (D × D)} (h : ρ[i]? = some (.od P w kvs)) : odOf P w i ρ = some kvs := by
  unfold odOf
  rw [h]
  exact if_pos ⟨rfl, rfl⟩
def hasK (kvs : List (D × D)) (k : NestedKey) : Bool := kvs.any fun p => decide (nk p.1 = some k)
def putD (kvs : List (D × D)) (k : NestedKey) (kd v : D) : List (D × D) := if hasK kvs k = true then kvs.map (fun p => if nk p.1 = some k then (p.1, v) else p) else kvs ++ [(kd, v)]
def getD' (kvs : List (D × D)) (k : NestedKey) : Option D := (kvs.find? fun p => decide (nk p.1 = some k)).map (·.2)
def keyD' (d : D) : Option NestedKey := match d with
  | .tup _ => (nk d).bind fun k => if k.depth ≤ 8 then some k else none
  | _ => none
section
variable {K : PySem.W.Frag} {G : Hp}
theorem ents_has {xs : List (NestedKey × Addr × Value)} {kvs : List (D × D)} (r : Paired (Ent K G) xs kvs) (k : NestedKey) : (atKey xs k).isSome = hasK kvs k := by
  induction r with
  | nil => rfl
  | @cons x kv xs kvs h t ih =>
    unfold atKey hasK at ih ⊢
    rw [List.find?_cons, List.any_cons, h.1]
    by_cases e : x.1 = k
    · simp [e]
    · have e' : ¬ some x.1 = some k := fun z => e (Option.some.inj z)
      simp only [decide_eq_false e, decide_eq_false e', Bool.false_or]
      exact ih
theorem ents_get {xs : List (NestedKey × Addr × Value)} {kvs : List (D × D)} (r : Paired (Ent K G) xs kvs) {k : NestedKey} {d : D} (h : getD' kvs k = some d) : ∃ p v, atKey xs k = some p ∧ RelV v p.2 ∧ Rp K G v d := by
  induction r with
  | nil => cases h
  | @cons x kv xs kvs hx t ih =>
    unfold getD' at h ih
    unfold atKey at ih ⊢
    rw [List.find?_cons] at h ⊢
    rw [hx.1] at h
    by_cases e : x.1 = k
    · simp only [e, decide_true] at h ⊢
      obtain ⟨_, _, _, v, h4, h5⟩ := hx
      cases h
      exact ⟨_, v, rfl, h4, h5⟩
    · have e' : ¬ some x.1 = some k := fun z => e (Option.some.inj z)
      simp only [decide_eq_false e, decide_eq_false e'] at h ⊢
      exact ih h
theorem ents_put {xs : List (NestedKey × Addr × Value)} {kvs : List (D × D)} (r : Paired (Ent K G) xs kvs) {k : NestedKey} {b : Addr} {kd d : D} {v : V} {u : Value} (hk : nk kd = some k) (hd : k.depth ≤ 8) (rk : Rp K G (.ref b) kd) (rv : Rp K G v d) (ru : RelV v u) :
    Paired (Ent K G) (storedH xs k b u) (putD kvs k kd d) := by
  have e := ents_has r k
  unfold storedH putD
  rw [e]
  by_cases hh : hasK kvs k = true
  · rw [if_pos hh, if_pos hh]
    clear e hh
    induction r with
    | nil => exact .nil
    | @cons x kv xs kvs hx t ih =>
      rw [List.map_cons, List.map_cons]
      refine .cons ?_ ih
      unfold putAt
      obtain ⟨h1, h2, h3, v', h4, h5⟩ := hx
      by_cases e : x.1 = k
      · rw [if_pos e, if_pos (by rw [h1, e])]
        exact ⟨h1, h2, h3, v, ru, rv⟩
      · rw [if_neg e, if_neg (by rw [h1]; exact fun z => e (Option.some.inj z))]
        exact ⟨h1, h2, h3, v', h4, h5⟩
  · rw [if_neg hh, if_neg hh]
    exact Paired.snoc r ⟨hk, hd, rk, v, ru, rv⟩
theorem ents_keys {H : Hp} {xs : List (NestedKey × Addr × Value)} {kvs : List (D × D)} (e : Ex G H) (r : Paired (Ent K G) xs kvs) : ∀ x ∈ xs, KeyAt K H x.2.1 x.1 := by
  induction r with
  | nil => intro x hx; exact nomatch hx
  | @cons x kv xs kvs hx t ih =>
    intro y hy
    rcases List.mem_cons.mp hy with rfl | hy
    · exact ⟨G, kv.1, e, hx.2.2.1, hx.1, hx.2.1⟩
    · exact ih y hy
theorem ents_list {xs : List (NestedKey × Addr × Value)} {kvs : List (D × D)} (r : Paired (Ent K G) xs kvs) : Rps K G (xs.map fun x => V.ref x.2.1) (kvs.map (·.1)) := by
  induction r with
  | nil => exact .nil
  | @cons x kv xs kvs hx t ih => exact .cons hx.2.2.1 ih
end
section
variable {K : PySem.W.Frag} {W : WX} {G0 H0 G H : Hp} {σ : L2.St} {ρ : DEnv} {te tk : TE} {me mk : ME} {P : Program} {w : World}
noncomputable def mAsgD (P : Program) (w : World) (i : Nat) : MS := fun ρ => some (.nx (ρ.set i (.od P w [])))
theorem Cfg.setOd {i : Nat} {p : Addr} (c : Cfg K G0 H0 G H σ ρ) (hp : H p = none) : Cfg K G0 H0 G (upd H p (NDict P w p [])) (σ.set i (some (.ref p))) (ρ.set i (.od P w [])) := by
  have c1 := c.mono (Wd.newH (o := NDict P w p []) c.sub hp)
  refine ⟨c1.wd, by rw [List.length_set, List.length_set]; exact c.len, fun j e q => ?_, fun j k ej ek a hjk qj qk oj ok => ?_⟩
  · rcases getElem?_set_some q with ⟨rfl, rfl, hl⟩ | ⟨hj, q⟩
    · exact ⟨p, by rw [List.getElem?_set_self (by rw [← c.len]; exact hl)], [], upd_same, fresh_back c.sub hp, fresh_back c.wd.2.1 hp, .nil⟩
    · rw [List.getElem?_set_ne (Ne.symm hj)]
      exact c1.slot j e q
  · have other : ∀ (j : Nat) (e : DE), ρ[j]? = some e → isOw e = true → σ[j]? ≠ some (some (.ref p)) := fun j e q oe z => by
      have s := c.slot j e q
      cases e with
      | un => cases oe
      | pu d => cases oe
      | ow es =>
        obtain ⟨b, h1, ws, h2, _⟩ := s
        rw [z] at h1
        cases h1
        rw [hp] at h2
        cases h2
      | od P w es =>
        obtain ⟨b, h1, ws, h2, _⟩ := s
        rw [z] at h1
        cases h1
        rw [hp] at h2
        cases h2
    rcases getElem?_set_some qj with ⟨rfl, rfl, hl⟩ | ⟨hj, qj⟩
    · rcases getElem?_set_some qk with ⟨rfl, _, _⟩ | ⟨hk, qk⟩
      · exact absurd rfl hjk
      · rw [List.getElem?_set_self (by rw [← c.len]; exact hl), List.getElem?_set_ne (Ne.symm hk)]
        intro e
        cases e
        exact other k ek qk ok
    · have qj1 := qj
      rcases getElem?_set_some qk with ⟨rfl, rfl, hl⟩ | ⟨hk, qk⟩
      · rw [List.getElem?_set_ne (Ne.symm hj), List.getElem?_set_self (by rw [← c.len]; exact hl)]
        intro e z
        cases z
        exact other j ej qj1 oj e
      · rw [List.getElem?_set_ne (Ne.symm hj), List.getElem?_set_ne (Ne.symm hk)]
        exact c.dis j k ej ek a hjk qj qk oj ok
theorem Cfg.mutD {i : Nat} {p : Addr} {xs : List (NestedKey × Addr × Value)} {kvs kvs0 : List (D × D)} (c : Cfg K G0 H0 G H σ ρ) (hi : ρ[i]? = some (.od P w kvs0)) (hp : σ[i]? = some (some (.ref p))) (r : Paired (Ent K G) xs kvs) :
    Cfg K G0 H0 G (upd H p (NDict P w p xs)) σ (ρ.set i (.od P w kvs)) := by
  obtain ⟨a, e1, ws, e2, e3, e4, e5⟩ := c.slot i _ hi
  rw [hp] at e1
  cases e1
  refine ⟨⟨c.wd.1, Ex.mut c.wd.2.1 e4, Ex.mut c.sub e3, c.wd.2.2.2⟩, by rw [List.length_set]; exact c.len, fun j e q => ?_, fun j k ej ek a hjk qj qk oj ok => ?_⟩
  · rcases getElem?_set_some q with ⟨rfl, rfl, hl⟩ | ⟨hj, q⟩
    · exact ⟨p, hp, xs, upd_same, e3, e4, r⟩
    · have s := c.slot j e q
      cases e with
      | un => trivial
      | pu d => exact s
      | ow es =>
        obtain ⟨b, h1, ws', h2, h3⟩ := s
        have nb : b ≠ p := fun z => by
          subst z
          exact c.dis i j _ _ b (Ne.symm hj) hi q rfl rfl hp h1
        exact ⟨b, h1, ws', by rw [upd_ne nb]; exact h2, h3⟩
      | od P w es =>
        obtain ⟨b, h1, ws', h2, h3⟩ := s
        have nb : b ≠ p := fun z => by
          subst z
          exact c.dis i j _ _ b (Ne.symm hj) hi q rfl rfl hp h1
        exact ⟨b, h1, ws', by rw [upd_ne nb]; exact h2, h3⟩
  · have back : ∀ {j : Nat} {e : DE}, (ρ.set i (.od P w kvs))[j]? = some e → isOw e = true → ∃ e', ρ[j]? = some e' ∧ isOw e' = true := fun {j e} q oe => by
      rcases getElem?_set_some q with ⟨rfl, rfl, hl⟩ | ⟨hj, q⟩
      · exact ⟨_, hi, rfl⟩
      · exact ⟨_, q, oe⟩
    obtain ⟨ej', qj', oj'⟩ := back qj oj
    obtain ⟨ek', qk', ok'⟩ := back qk ok
    exact c.dis j k ej' ek' a hjk qj' qk' oj' ok'
theorem sm_asgD {i : Nat} : SM K W (tAsg (tDNewN P w) (gName i)) (mAsgD P w i) := fun ρ o e G0 H0 G H σ E c p => by
  cases e
  exact fun q hq => p G _ _ (Ex.refl G) (c.setOd hq)
noncomputable def mDSet (P : Program) (w : World) (i : Nat) (mk mv : ME) : MS := fun ρ => (mv ρ).bind fun v => (mk ρ).bind fun kd => (odOf P w i ρ).bind fun kvs => (keyD' kd).bind fun k => if kvs.length < big then some (.nx (ρ.set i (.od P w (putD kvs k kd v)))) else none
theorem keyD_of {kd : D} {k : NestedKey} (h : keyD' kd = some k) : (∃ ds, kd = .tup ds) ∧ nk kd = some k ∧ k.depth ≤ 8 := by
  unfold keyD' at h
  split at h
  · obtain ⟨k', h1, h⟩ := Option.bind_eq_some_iff.mp h
    split at h
    · cases h
      exact ⟨⟨_, rfl⟩, h1, by assumption⟩
    · cases h
  · cases h
theorem sm_dset {i : Nat} (hv : EM K te me) (hk : EM K tk mk) : SM K W (tAsg te (gSub (tVar i) tk (rSetN P w K))) (mDSet P w i mk me) := fun ρ o e G0 H0 G H σ E c p => by
  obtain ⟨v, e1, e⟩ := Option.bind_eq_some_iff.mp e
  obtain ⟨kd, e2, e⟩ := Option.bind_eq_some_iff.mp e
  obtain ⟨kvs, e3, e⟩ := Option.bind_eq_some_iff.mp e
  obtain ⟨k, e4, e⟩ := Option.bind_eq_some_iff.mp e
  split at e
  · rename_i hz
    cases e
    have hi := odOf_eq e3
    obtain ⟨⟨ds, rfl⟩, hk1, hk2⟩ := keyD_of e4
    refine hv ρ v e1 G0 H0 G H σ c _ fun x G1 H1 w1 r1 => ?_
    have c1 := c.mono w1
    obtain ⟨a, ha, xs, h1, h2, h3, r⟩ := c1.slot i _ hi
    refine ⟨_, ha, ?_⟩
    refine hk ρ _ e2 G0 H0 G1 H1 σ c1 _ fun y G2 H2 w2 r2 => ?_
    obtain ⟨b, vs, rfl, s1, r3⟩ := rp_tup r2
    have r' : Paired (Ent K G2) xs kvs := Paired.mapP r fun _ _ z => z.mono w2.g
    refine ⟨a, b, xs, k, rfl, rfl, w2.h a _ h1, ?_, ⟨G2, _, w2.s, r2, hk1, hk2⟩, ents_keys w2.s r', fun u ru => ?_⟩
    · rw [Paired.length r, sizeLine_eq]
      exact hz
    · exact p G2 _ _ (w1.g.trans w2.g) ((c1.mono w2).mutD hi ha (ents_put r' hk1 hk2 r2 (r1.mono w2.g) ru))
  · cases e
noncomputable def mDGet (P : Program) (w : World) (i : Nat) (mk : ME) : ME := fun ρ => (odOf P w i ρ).bind fun kvs => (mk ρ).bind fun kd => (keyD' kd).bind fun k => getD' kvs k
theorem em_dget {i : Nat} (hk : EM K tk mk) : EM K (tOp (rIxN P w K) (tVar i) tk) (mDGet P w i mk) := fun ρ d e G0 H0 G H σ c Q q => by
  obtain ⟨kvs, e1, e⟩ := Option.bind_eq_some_iff.mp e
  obtain ⟨kd, e2, e⟩ := Option.bind_eq_some_iff.mp e
  obtain ⟨k, e3, e4⟩ := Option.bind_eq_some_iff.mp e
  have hi := odOf_eq e1
  obtain ⟨⟨ds, rfl⟩, hk1, hk2⟩ := keyD_of e3
  obtain ⟨a, ha, xs, h1, h2, h3, r⟩ := c.slot i _ hi
  refine ⟨_, ha, ?_⟩
  refine hk ρ _ e2 G0 H0 G H σ c _ fun y G2 H2 w2 r2 => ?_
  obtain ⟨b, vs, rfl, s1, r3⟩ := rp_tup r2
  have r' : Paired (Ent K G2) xs kvs := Paired.mapP r fun _ _ z => z.mono w2.g
  obtain ⟨p, v, hp, rv, rd⟩ := ents_get r' e4
  exact ⟨a, b, xs, k, p, v, rfl, rfl, w2.h a _ h1, ⟨G2, _, w2.s, r2, hk1, hk2⟩, ents_keys w2.s r', hp, rv, q v G2 H2 w2 rd⟩
noncomputable def mDKeys (P : Program) (w : World) (i : Nat) : ME := fun ρ => (odOf P w i ρ).map fun kvs => .lst (kvs.map (·.1))
theorem em_dkeys {i : Nat} : EM K (tCB (rListN P w) (tCons (tVar i) tNil)) (mDKeys P w i) := fun ρ d e G0 H0 G H σ c Q q => by
  obtain ⟨kvs, e1, rfl⟩ := Option.map_eq_some_iff.mp e
  have hi := odOf_eq e1
  obtain ⟨a, ha, xs, h1, h2, h3, r⟩ := c.slot i _ hi
  exact ⟨_, ha, a, xs, rfl, h1, new_lst c.sub (ents_list r) q⟩
end
section
variable {X : Cx} {W : WX} {e k : Expr} {x : Str} {te tk : TE} {me mk : ME} {pos p2 p3 : Pos}
theorem s_setD (i : Nat) {p' pd' : Pos} (hN : X.N.Nodup) (hi : X.N[i]? = some x := by rfl) (hx : Loc X.env.scope x := by first | exact .inl rfl | exact .inr rfl) (hs : swapsWith (.Dict [] [] pd') (some (.Name x p')) pos.line X.env = pure false := by rfl) (hf : X.fn x = true ∨ X.env.scope.names.lookup x = some .local := by first | exact .inl rfl | exact .inr rfl)
    {P : Program} {w : World} (hP : X.prog = P := by rfl) (hw : X.w = w := by rfl) : JS X W (.Assign [.Name x p'] (.Dict [] [] pd') pos) (tAsg (tDNewN P w) (gName i)) (mAsgD P w i) := by
  subst hP hw
  exact ⟨ps_set hN hi hx pe_dnewN hs hf, sm_asgD⟩
theorem s_dset (i : Nat) {j : Nat} {tp : Pos} (hr : Room j X.A) (hv : JE X e te me) (hk : JE X k tk mk) (hN : X.N[i]? = some x := by rfl) (hvs : Vis X.env.scope x := by first | exact Or.inl rfl | exact Or.inr (Or.inl rfl) | exact Or.inr (Or.inr rfl)) (hd : (x == ("__debug__" : Str)) = false := by decide)
    (hcd : (x == ("__classdict__" : Str)) = false := by decide)
    (ha : ∀ v, assign (.Subscript (.Name x p2) k tp) X.env v = (do
      let ov ← holding [v] (eval (.Name x p2) X.env)
      let iv ← holding [v, ov] (eval k X.env)
      standAt tp
      holding [v, ov, iv] (setItem ov iv v)
      release [v, ov, iv] []) := by intro _; rfl)
    (hs : swapsWithSole [.Subscript (.Name x p2) k tp] e pos.line X.env = pure false := by rfl) (hw : swappedStores [.Subscript (.Name x p2) k tp] e X.env = pure none := by rfl)
    (h1 : (assignEach [.Subscript (.Name x p2) k tp] X.env).map (·.2) = [assign (.Subscript (.Name x p2) k tp) X.env] := by rfl) {K : PySem.W.Frag} (hK : X.K = K := by rfl) {P : Program} {w : World} (hP : X.prog = P := by rfl) (hw2 : X.w = w := by rfl) :
    JS X W (.Assign [.Subscript (.Name x p2) k tp] e pos) (tAsg te (gSub (tVar i) tk (rSetN P w K))) (mDSet P w i mk me) := by
  subst hK hP hw2
  exact ⟨ps_asg hv.p (pg_sub (pe_var hN hvs hd hcd) hk.p (set_nd hr) ha) hs hw h1, sm_dset hv.m hk.m⟩
theorem j_dget (i : Nat) {j : Nat} (hr : Room j X.A) (hk : JE X k tk mk) (hs : NoSl k := by exact fun _ _ => rfl) (hN : X.N[i]? = some x := by rfl) (hvs : Vis X.env.scope x := by first | exact Or.inl rfl | exact Or.inr (Or.inl rfl) | exact Or.inr (Or.inr rfl)) (hd : (x == ("__debug__" : Str)) = false := by decide)
    (hcd : (x == ("__classdict__" : Str)) = false := by decide) {K : PySem.W.Frag} (hK : X.K = K := by rfl) {P : Program} {w : World} (hP : X.prog = P := by rfl) (hw2 : X.w = w := by rfl) :
    JE X (.Subscript (.Name x p2) k pos) (tOp (rIxN P w K) (tVar i) tk) (mDGet P w i mk) := by
  subst hK hP hw2
  exact ⟨pe_dixN hr (pe_var hN hvs hd hcd) hk.p hs, em_dget hk.m⟩
theorem j_dkeys (i : Nat) (hm : X.mg "list" = none) (hc : X.calm = true := by rfl) (hN : X.N[i]? = some x := by rfl) (hvs : Vis X.env.scope x := by first | exact Or.inl rfl | exact Or.inr (Or.inl rfl) | exact Or.inr (Or.inr rfl)) (hd : (x == ("__debug__" : Str)) = false := by decide)
    (hcd : (x == ("__classdict__" : Str)) = false := by decide) (hv : bootBuiltins "list" = some (.type "list") := by decide +kernel) (hg : Gl X "list" := by rfl)
    (hs : starEach [.Name x p3] X.env = (false, eval (.Name x p3) X.env) :: starEach [] X.env := by rfl) (hpl : (backTo pos (starEach [] X.env)).any (·.1) = false := by rfl) {P : Program} {w : World} (hP : X.prog = P := by rfl) (hw2 : X.w = w := by rfl) :
    JE X (.Call (.Name "list" p2) [.Name x p3] [] pos) (tCB (rListN P w) (tCons (tVar i) tNil)) (mDKeys P w i) := by
  subst hP hw2
  exact ⟨pe_callTy (call_listN hc) hg hm hv (pa_cons (pe_var hN hvs hd hcd) pa_nil hs) (by decide) (by decide) hs hpl, em_dkeys⟩
end
end DD

set_option Elab.async false
set_option linter.all false
set_option maxRecDepth 100000
set_option maxHeartbeats 4000000
/-! DD21: isinstance of plain data; not of any value; plain data compared where tokens are kept; joined texts of good tokens; a text changer called with a written list; a for whose turns end with facts forgotten. -/
namespace DD
open PySem PySem.Spec PyProof.Rows L2 Evl PySem.W
/-! ### isinstance -/
section
variable {X : Cx} {K : PySem.W.Frag}
def typD : D → Option String
  | .val .non => some "NoneType"
  | .val (.bl _) => some "bool"
  | .val (.int _) => some "int"
  | .val (.str _) => some "str"
  | .lst _ => some "list"
  | .tup _ => some "tuple"
  | _ => none
def isiD : List D → Option D
  | [d, .val (.ty T)] => (typD d).bind fun t => (kitB t T).map .bl
  | _ => none
theorem ty_of {G H : Hp} (e : Ex G H) : ∀ {d : D} {v : V} {t : String}, Rp K G v d → typD d = some t → TyX K H v (.type t)
  | .val w, v, t, r, h => by
    cases r
    cases w <;> simp only [typD, Option.some.injEq, reduceCtorEq] at h <;> subst h <;> exact .base (by constructor)
  | .lst ds, v, t, r, h => by
    cases h
    obtain ⟨p, vs, rfl, h1, r2⟩ := rp_lst r
    rcases ex_l e h1 with h2 | h2
    · rcases h2 with h2 | ⟨o, h2⟩
      · exact .base (.lst h2)
      · exact .base (.frz h2)
    · obtain ⟨o, its, n, h3, h4, _⟩ := h2
      exact .kList h3 h4
  | .tup ds, v, t, r, h => by
    cases h
    obtain ⟨p, vs, rfl, h1, r2⟩ := rp_tup r
    rcases ex_t e h1 with h2 | h2
    · rcases h2 with h2 | ⟨o, h2⟩
      · exact .base (.tup h2)
      · exact .fTuple h2
    · obtain ⟨o, its, n, h3, h4, _⟩ := h2
      exact .kTuple h3 h4
theorem rc_isi : RCM K (rIsi K) isiD := fun xs as d G H e r h Q q => by
  unfold isiD at h
  split at h
  · obtain ⟨t, h1, h⟩ := Option.bind_eq_some_iff.mp h
    obtain ⟨b, h2, rfl⟩ := Option.map_eq_some_iff.mp h
    obtain ⟨v, v2, rfl, r0, r1⟩ := rps_two r
    cases rp_val r1
    exact ⟨v, .ty _, .type t, .type _, b, rfl, .ty _, ty_of e r0 h1, kit_ty h2, q _ G H (Wd.refl e) (.val _)⟩
  · cases h
theorem b_isi {K : PySem.W.Frag} (hK : X.K = K := by rfl) : BR X (.builtin "isinstance") (rIsi K) isiD := by
  subst hK
  exact ⟨call_isi, rc_isi⟩
variable {x : Str} {pos p2 : Pos} {a b c e : Expr} {es : List Expr} {ta tb te : TE} {ma mb me : ME} {tl : TA} {ml : MA}
/-- a built-in type as a value -/
theorem j_ty {T : String} (hm : X.mg x = none) (hv : bootBuiltins x = some (.type T) := by decide +kernel) (hg : Gl X x := by rfl) (hn : x ≠ "__name__" := by decide) (hd : (x == ("__debug__" : Str)) = false := by decide) : JE X (.Name x pos) (tC (.ty T)) (mC (.ty T)) :=
  ⟨pe_bltn hg hm hv rfl hn hd, em_c⟩
def mNotT (m : ME) : ME := fun ρ => (m ρ).bind fun x => (truD x).map fun k => .bl (!k)
theorem j_notT (ha : JE X a ta ma) {K : PySem.W.Frag} (hK : X.K = K := by rfl) : JE X (.UnaryOp .Not a pos) (tNotT K ta) (mNotT ma) := by
  subst hK
  refine ⟨pe_notT ha.p, fun ρ d q G0 H0 G H σ c Q z => ?_⟩
  obtain ⟨x, e1, q⟩ := Option.bind_eq_some_iff.mp q
  obtain ⟨k, e2, rfl⟩ := Option.map_eq_some_iff.mp q
  exact ha.m ρ x e1 G0 H0 G H σ c _ fun v G1 H1 w r => ⟨k, tru_of w.s r e2, z _ G1 H1 w (.val _)⟩
end
/-! ### where tokens are kept -/
section
variable {X : Cx} {ν : List Str} {a b c e o : Expr} {es : List Expr} {ta tb te : TE} {ma mb me : ME} {tl : TA} {ml : MA} {pos p2 apos : Pos} {x : Str} {j : Nat}
theorem opk_neP (hr : Room j X.A) : OpK X (compareOp .NotEq) (rDat2 X.K eqC fun d e => !PyData.eqv d e) := by
  intro pins s σ H x y v u Q I rx ry h
  obtain ⟨d, e, hd, he, hc, q⟩ := h
  simp only [eqC, Bool.and_eq_true] at hc
  obtain ⟨as, r1⟩ := Dp.reads I d x v hd rx
  obtain ⟨bs, r2⟩ := Dp.reads I e y u he ry
  exact SeqAt.ne_plain r1 r2 hc.1.1 hc.1.2 (room180 hr hc.2) (ev_same I (x := .bl _) rfl q)
theorem kt_neP (hr : Room j X.A) (ha : JKE X ν a ta ma) (hb : JKE X ν b tb mb) (hm : behindInMarks .NotEq b = false := by first | exact nomark _ | rfl) {K : PySem.W.Frag} (hK : X.K = K := by rfl) :
    JKT X ν (.Compare a [.NotEq] [b] pos) (tTest (tOp (rDat2 K eqC fun d e => !PyData.eqv d e) ta tb)) (mTest (mOp neP ma mb)) := by
  subst hK
  exact ⟨ptk_cmp (opk_neP hr) ha.p hb.p hm, tm_test (em_op r2_neP ha.m hb.m)⟩
theorem k_isi (hm : X.mg "isinstance" = none) (ha : JKA X ν (e :: es) tl ml) (hg : Gl X "isinstance" := by rfl) (he : starEach (e :: es) X.env = (false, eval e X.env) :: starEach es X.env := by rfl) (hpl : (backTo pos (starEach es X.env)).any (·.1) = false := by rfl) {K : PySem.W.Frag} (hK : X.K = K := by rfl) :
    JKE X ν (.Call (.Name "isinstance" p2) (e :: es) [] pos) (tCB (rIsi K) tl) (mCall isiD ml) := by
  subst hK
  exact ⟨pek_callB callk_isi hg hm (by decide +kernel) ha.p (by decide) (by decide) he hpl, em_cb rc_isi ha.m⟩

/-! ### sep.join(a list of two texts at least) has a token of its own -/
theorem join_raw2 {prog : Program} {w : World} {A : Around} {E : Value → Shared → Prop} {s : Shared} {x : Str} {t : Tok} {D : Addr} {its : List Value} {ys : List Str} {Q : Value → Shared → Prop} (hl : s.heap.IsList D its.toArray) (hi : StrsAre its ys)
    (hok : (ys.map (·.length)).sum + ys.length * x.length ≤ 16777216) (h2 : 2 ≤ ys.length) (h : Q (.str (Txt.join x ys) s.toks) { s with toks := s.toks + 1 }) :
    wpAny (model prog w) A (call (.builtin "str.join") [.str x t, .ref D]) Q E s := by
  obtain ⟨l, hv, ht⟩ := strsAre_values hi
  subst hv ht
  have hok' := joinOk_of hok
  unfold JoinOk at hok'
  rw [Bool.not_eq_true'] at hok'
  refine call_meets F.slot_str_join (typeIs_str _ _ _) F.entry_str_join (F.args_str_join_2 _ _) (meets_str_join_list x t D l hok') ⟨hl, ?_⟩
  match l, h2, h with
  | _ :: _ :: _, _, h => exact ⟨joinFit_length hok', h⟩
  | [], h2, _ => simp at h2
  | [_], h2, _ => simp at h2
def rJoinM (K : PySem.W.Frag) : V → List V → Hp → VK → Prop := fun x xs H Q => ∃ a p, ∃ ys : List Str, x = .str a ∧ xs = [.ref p] ∧ SqL K H p (ys.map V.str) ∧ 2 ≤ ys.length ∧ (ys.map (·.length)).sum + ys.length * a.length ≤ 16777216 ∧ Q (.str (Txt.join a ys)) H
theorem peg_joinM {z : Str} {j : Nat} {q0 cpos : Pos} (ha : PEK X ν e te)
    (hbase : attributeBase (.Constant (.str z) j q0) "join" X.env (eval (.Constant (.str z) j q0) X.env) = eval (.Constant (.str z) j q0) X.env := by rfl)
    (hfew : ((backTo cpos (starEach [e] X.env)).all (fun x => !x.1) && (backToKw cpos (keywordEach [] X.env)).all (fun x => x.1.isSome)
      && decide (([e] : List Expr).length + ([] : List Keyword).length + (if ([] : List Keyword).isEmpty then 0 else 1) < 30)) = true := by rfl)
    (hline : (apos.endLine == cpos.line) = true := by rfl) (hst : starEach [e] X.env = [(false, eval e X.env)] := by rfl) :
    PEG X ν (.Call (.Attribute (.Constant (.str z) j q0) "join" apos) [e] [] cpos) (tBM X.K "str" (rJoinM X.K) (tC (.str z)) (tCons te tNil)) := by
  refine ⟨fun pins s σ H Q I h1 h => ?_⟩
  obtain ⟨ty, h⟩ := h
  refine wpAny_Call_method_late hbase hfew hline rfl (Calls.Constant_str ?_)
  refine ⟨"str", _, PySem.F.plainAttrs_str, PySem.F.slot_str_join, PySem.F.type_str_join, typeIs_str _ _ _, (fun _ e => nomatch e), ?_⟩
  rw [hst]
  refine Calls.callWith_builtin rfl (Calls.evalArgs_plain ?_)
  show wpAny _ _ (spliced ((false, eval e X.env) :: [])) _ _ _
  refine Calls.spliced_cons (thk (ha.run pins _ σ H _ (I.tok (s.toks + 1)) h) fun u s1 t1 ⟨k1, v1, H1, f1, I1, r1, q1⟩ => ?_)
  obtain ⟨a, p, ys, ea, ep, hq, h2, hz, q⟩ := q1
  cases ea
  cases ep
  cases r1
  obtain ⟨its, r, pl, _⟩ := I1.list hq
  refine Calls.spliced_nil (join_raw2 pl.isList (strs_of_vals r) hz h2 ?_)
  have t1' : s.toks + 1 ≤ s1.toks := t1
  refine ⟨EK.from (s1 := s1) (H1 := H1) (fun m hm => k1 m hm) f1 (ev_tok I1 (x := .str (Txt.join z ys)) ⟨_, rfl⟩ q).k, fun z' t' e => ?_⟩
  simp only [Value.str.injEq] at e
  obtain ⟨_, e⟩ := e
  have e' : s1.toks = t' := e
  exact ⟨show (1 : Nat) ≤ t' by omega, Nat.lt_succ_of_le (Nat.le_of_eq e'.symm)⟩
def joinMD : D → List D → Option D
  | .val (.str a), [.lst ds] => (strsD ds).bind fun ys => if 2 ≤ ys.length ∧ (ys.map (·.length)).sum + ys.length * a.length ≤ 16777216 then some (.str (Txt.join a ys)) else none
  | _, _ => none
theorem rm_joinM {K : PySem.W.Frag} : RMM K "str" (rJoinM K) joinMD := fun x xs a as d h => by
  unfold joinMD at h
  split at h
  · obtain ⟨ys, h1, h⟩ := Option.bind_eq_some_iff.mp h
    split at h
    · rename_i hz
      cases h
      refine ⟨fun G H e r => ?_, fun G H e r rs Q q => ?_⟩
      · cases rp_val r
        exact rfl
      · cases rp_val r
        obtain ⟨v, rfl, rv⟩ := rps_one rs
        obtain ⟨l, vs, rfl, s1, r1⟩ := rp_lst rv
        rw [strsD_strs h1] at r1
        rw [Rps.of_vals r1] at s1
        exact ⟨_, l, ys, rfl, rfl, ex_l e s1, hz.1, hz.2, q _ G H (Wd.refl e) (.val _)⟩
    · cases h
  · cases h
theorem g_joinM {z : Str} {j : Nat} {q0 cpos : Pos} (ha : JKE X ν e te me)
    (hbase : attributeBase (.Constant (.str z) j q0) "join" X.env (eval (.Constant (.str z) j q0) X.env) = eval (.Constant (.str z) j q0) X.env := by rfl)
    (hfew : ((backTo cpos (starEach [e] X.env)).all (fun x => !x.1) && (backToKw cpos (keywordEach [] X.env)).all (fun x => x.1.isSome)
      && decide (([e] : List Expr).length + ([] : List Keyword).length + (if ([] : List Keyword).isEmpty then 0 else 1) < 30)) = true := by rfl)
    (hline : (apos.endLine == cpos.line) = true := by rfl) (hst : starEach [e] X.env = [(false, eval e X.env)] := by rfl) {K : PySem.W.Frag} (hK : X.K = K := by rfl) :
    JEG X ν (.Call (.Attribute (.Constant (.str z) j q0) "join" apos) [e] [] cpos) (tBM K "str" (rJoinM K) (tC (.str z)) (tCons te tNil)) (mMeth joinMD (mC (.str z)) (mCons me mNil)) := by
  subst hK
  exact ⟨peg_joinM ha.p hbase hfew hline hst, em_bm rm_joinM em_c (am_cons ha.m am_nil)⟩
end

/-! ### name = a text of a good token -/
section
variable {X : Cx} {W : WX} {n0 : Nat} {a b e : Expr} {te ta tb : TE} {me ma mb : ME} {pos p2 : Pos} {x : Str} {sts : List Stmt} {t u : TS} {m n : MS}
theorem z_one {i : Nat} {p' : Pos} (h0 : 1 ≤ n0) (hN : X.N.Nodup) (ha : PEH X e te) (hi : X.N[i]? = some x := by rfl) (hk : X.env.scope.names.lookup x = some .local := by rfl) (hs : swapsWith e (some (.Name x p')) pos.line X.env = pure false := by rfl) :
    PSZ X n0 [] [⟨x, false, Pn⟩] (.Assign [.Name x p'] e pos) (tAsg te (gName i)) := by
  refine ⟨fun pins s σ H D I nz h => ?_⟩
  have h0s : 1 ≤ s.toks := Nat.le_trans h0 nz.1
  refine wpAny_Assign_Name (thk (ha.run pins s σ H _ I h0s h) fun u1 s1 t1 ⟨⟨v1, H1, I1, r1, q1⟩, g1⟩ => ?_) hs
  obtain ⟨m1, hm1, _⟩ := id I1.loc
  refine store_k I1 hN hi hk r1 hm1 (fun s2 I2 n2 t2 => ?_)
  have t2' : s1.toks ≤ s2.toks := t2
  have h0n := nz.1
  refine ⟨rfl, _, H1, I2, ⟨by omega, _, n2, fun f hf => ?_⟩, q1⟩
  rw [List.mem_singleton] at hf
  subst hf
  refine ⟨(fun e => nomatch e), fun _ z t' q => ?_⟩
  simp only [if_true] at q
  cases q
  have := g1 z t' rfl
  exact ⟨this.1, Nat.lt_of_lt_of_le this.2 (by omega)⟩
theorem zs_one (i : Nat) {p' : Pos} (h0 : 1 ≤ n0) (hN : X.N.Nodup) (ha : JEH X e te me) (hi : X.N[i]? = some x := by rfl) (hk : X.env.scope.names.lookup x = some .local := by rfl) (hs : swapsWith e (some (.Name x p')) pos.line X.env = pure false := by rfl) :
    JZS X n0 [] [⟨x, false, Pn⟩] W (.Assign [.Name x p'] e pos) (tAsg te (gName i)) (mAsg i me) := ⟨z_one h0 hN ha.p hi hk hs, sm_asg ha.m⟩
end
end DD

set_option Elab.async false
set_option linter.all false
set_option maxRecDepth 100000
set_option maxHeartbeats 4000000
/-! DD22: a text changer called with a written list; a for whose turns go through facts of their own. -/
namespace DD
open PySem PySem.Spec PyProof.Rows L2 Evl PySem.W
section
variable {X : Cx} {n0 : Nat} {τ : List Fact} {b : Expr} {tb : TE} {mb : ME} {pos p q0 cpos : Pos} {x y0 : Str} {es : List Expr} {tl : TA} {ml : MA}
theorem pen_textsI {f : Addr} {F : List D → Option D} {k i0 : Nat} {p0 p1 p2 : Str} (h0n : 1 ≤ n0) (mo : Mono τ) (T : ∀ B T0 : Nat, 1 ≤ B → B ≤ T0 → FnZ X.prog X.w X.K X.mg X.base f x k [p0, p1, p2] T0 [⟨p0, false, fun _ t => 1 ≤ t ∧ t < B⟩, ⟨p2, true, fun _ t => B ≤ t ∧ t < T0⟩] F) (hr : Room k X.A)
    (hx : ⟨y0, false, Pn⟩ ∈ τ) (hz : ∀ B, 1 ≤ B → PAZ X B τ es (fun n t => B ≤ t ∧ t < n) tl) (hb : PEK X (names τ) b tb)
    (hg : Gl X x := by rfl) (hi0 : X.N[i0]? = some y0 := by rfl) (hk0 : X.env.scope.names.lookup y0 = some .local := by rfl)
    (hdb : (x == ("__debug__" : Str)) = false := by decide) (hd0 : (y0 == ("__debug__" : Str)) = false := by decide)
    (h0 : ∀ u0 u1 u2 : Value, argMap [p0, p1, p2] [u0, u1, u2] p0 = some u0 := by intro _ _ _; rfl) (h2 : ∀ u0 u1 u2 : Value, argMap [p0, p1, p2] [u0, u1, u2] p2 = some u2 := by intro _ _ _; rfl)
    (he : starEach [.Name y0 q0, b, .List es cpos] X.env = (false, eval (.Name y0 q0) X.env) :: starEach [b, .List es cpos] X.env := by rfl)
    (he2 : starEach [b, .List es cpos] X.env = [(false, eval b X.env), (false, eval (.List es cpos) X.env)] := by rfl) (hpl : (backTo pos (starEach [b, .List es cpos] X.env)).any (·.1) = false := by rfl) :
    PEN X n0 τ (.Call (.Name x p) [.Name y0 q0, b, .List es cpos] [] pos) (tCall (spD X.K 3 F) [] E0 (tCons (tVar i0) (tCons tb (tCons (tLstZ tl) tNil)))) := by
  refine ⟨fun pins s σ H Q I nz h => ?_⟩
  obtain ⟨v0, e0, h⟩ := h
  obtain ⟨hn, m, hm, hf⟩ := id nz
  have hB : 1 ≤ s.toks := Nat.le_trans h0n hn
  obtain ⟨u0, r0, m0⟩ := raw_at I hm hi0 hk0 e0
  refine wpAny_Call_Name_kw (ld_glob I hg (T 1 1 (Nat.le_refl _) (Nat.le_refl _)).g ?_ hdb)
  refine PySem.W.callWith_K (h₀ := X.base) I.ok.mod.kin (T 1 1 (Nat.le_refl _) (Nat.le_refl _)).kp ?_ he hpl
  rw [he, he2]
  show wpAny _ _ (spliced ((false, eval (.Name y0 q0) X.env) :: (false, eval b X.env) :: (false, eval (.List es cpos) X.env) :: [])) _ _ s
  refine Calls.spliced_cons (raw_ld I hm hk0 m0 ?_ hd0)
  refine Calls.spliced_cons (thk (hb.run pins s σ H _ I h) fun u1 s1 t1 ⟨k1, v1, H1, f1, I1, r1, q1⟩ => ?_)
  have nz1 := nz.keep mo k1 t1 f1
  have nzB : Nz X s.toks τ s1 H1 := ⟨t1, nz1.2⟩
  refine Calls.spliced_cons (lstZ (hz s.toks hB) I1 nzB q1 fun a s2 ob its nn ys H2 t2 k2 f2 I2 hp2 hd2 g2 q2 => ?_)
  refine Calls.spliced_nil ⟨I2.kIn, ?_⟩
  have q : spD X.K 3 F ([v0, v1, .ref a] ++ []) H2 Q E0 := q2
  rw [List.append_nil] at q
  show wpAny (model X.prog X.w) X.A (call (.ref f) [u0, u1, .ref a]) (EK X (names τ) pins σ s H Q) X.xe s2
  have hBT : s.toks ≤ s2.toks := Nat.le_trans t1 t2
  refine wpAny_call (codeAny_mono ((T s.toks s2.toks hB hBT).run X.A X.stack s2 H2 [u0, u1, .ref a] [v0, v1, .ref a] Q E0 hr I2.env0 (.cons r0 (.cons r1 (.cons rfl .nil))) (Nat.le_refl _) (fun fc hfc => ?_) q) fun r s' hq => ?_)
  · rcases List.mem_cons.mp hfc with e | hfc
    · subst e
      refine ⟨(fun e => nomatch e), fun _ z t e => ?_⟩
      rw [h0] at e
      cases e
      exact (hf _ hx).2 rfl z t m0
    · rw [List.mem_singleton] at hfc
      subst hfc
      exact ⟨fun _ => ⟨.ref a, h2 _ _ _, a, ob, its, nn, ys, rfl, hp2, hd2, fun z t hm => g2 z t hm⟩, (fun e => nomatch e)⟩
  · cases r with
    | error e => exact pass0 pins σ H2 s2 e s' I2 hq
    | ok fl =>
      cases fl with
      | ret u => exact EK.from (k1.trans k2) (f1.trans f2) (Inv.afterK I2 hq)
      | next => exact False.elim hq
      | brk => exact False.elim hq
      | cont => exact False.elim hq
theorem n_textsI {f : Addr} {F : List D → Option D} {k k' i0 : Nat} {p0 p1 p2 : Str} (h0n : 1 ≤ n0) (mo : Mono τ) (T : ∀ B T0 : Nat, 1 ≤ B → B ≤ T0 → FnZ X.prog X.w X.K X.mg X.base f x k [p0, p1, p2] T0 [⟨p0, false, fun _ t => 1 ≤ t ∧ t < B⟩, ⟨p2, true, fun _ t => B ≤ t ∧ t < T0⟩] F) (hr : Room k' X.A)
    (hx : ⟨y0, false, Pn⟩ ∈ τ) (hz : ∀ B, 1 ≤ B → JZA X B τ es (fun n t => B ≤ t ∧ t < n) tl ml) (hb : JKE X (names τ) b tb mb) (hkk : k ≤ k' := by decide)
    (hg : Gl X x := by rfl) (hi0 : X.N[i0]? = some y0 := by rfl) (hk0 : X.env.scope.names.lookup y0 = some .local := by rfl)
    (hdb : (x == ("__debug__" : Str)) = false := by decide) (hd0 : (y0 == ("__debug__" : Str)) = false := by decide)
    (h0 : ∀ u0 u1 u2 : Value, argMap [p0, p1, p2] [u0, u1, u2] p0 = some u0 := by intro _ _ _; rfl) (h2 : ∀ u0 u1 u2 : Value, argMap [p0, p1, p2] [u0, u1, u2] p2 = some u2 := by intro _ _ _; rfl)
    (he : starEach [.Name y0 q0, b, .List es cpos] X.env = (false, eval (.Name y0 q0) X.env) :: starEach [b, .List es cpos] X.env := by rfl)
    (he2 : starEach [b, .List es cpos] X.env = [(false, eval b X.env), (false, eval (.List es cpos) X.env)] := by rfl) (hpl : (backTo pos (starEach [b, .List es cpos] X.env)).any (·.1) = false := by rfl) {K : PySem.W.Frag} (hK : X.K = K := by rfl) :
    JNE X n0 τ (.Call (.Name x p) [.Name y0 q0, b, .List es cpos] [] pos) (tCall (spD K 3 F) [] E0 (tCons (tVar i0) (tCons tb (tCons (tLstZ tl) tNil)))) (mCall F (mCons (mVar i0) (mCons mb (mCons (mLst (few ml)) mNil)))) := by
  subst hK
  exact ⟨pen_textsI h0n mo T (hr.mono hkk) hx (fun B h => (hz B h).p) hb.p hg hi0 hk0 hdb hd0 h0 h2 he he2 hpl, em_call (fun ds d h => (T 1 1 (Nat.le_refl _) (Nat.le_refl _)).ar ds d h) (am_cons em_var (am_cons hb.m (am_cons (em_lstZ (hz 1 (Nat.le_refl _)).m) am_nil)))⟩
end
/-! ### for, each turn a block that goes through facts of its own -/
section
variable {X : Cx} {W : WX} {n0 : Nat} {tg iter : Expr} {body sts : List Stmt} {wi : TI} {g : TG} {tb tu : TS} {pos : Pos} {mi : MA} {js : List Nat} {f : D → DEnv → Option DEnv} {m mu : MS}
theorem pbn_for0 (hp : PassesOwn (model X.prog X.w) X.A X.env X.xe) (hc : X.calm = true) (hi : PIN X n0 [] tg iter wi) (hg : PGK X [] tg g) (hb : PBN X n0 [] body tb) (h2 : PBN X n0 [] sts tu)
    (hs : ∀ x, foldedSetIterable iter X.env x = pure x := by intro _; rfl) : PBN X n0 [] (.For tg iter body [] pos :: sts) (tSeq (tFor wi g tb) tu) := by
  refine ⟨fun pins s σ H D I nz h => ?_⟩
  have go : wpAny (model X.prog X.w) X.A (exec (.For tg iter body [] pos) X.env) (fun f s' => s.toks ≤ s'.toks ∧ SP X pins { D with nx := tu D } f s') X.xe s := by
    refine wpAny_For (thk (hi.run pins s σ H _ I nz h) fun v s1 t1 h1 => thk h1 fun itv s2 t2 h2 => ?_) hs
    obtain ⟨k2, it, fp, tn, J, H2, e, z2, I2, T, st2, f2, W, ⟨m0, w0⟩, turn⟩ := h2
    subst e
    have stat : ∀ {H' : Hp}, (∀ b ∈ fp, H' b = none) → ∀ b ∈ fp, FpOk X pins H' b := fun hn b hb => ⟨hn b hb, (f2 b hb).2⟩
    refine codeAny_forLoop_any (fun n s' => s.toks ≤ s'.toks ∧ ∃ i σ' H', Inv X pins σ' H' s' ∧ tn i s'.heap ∧ (∀ b ∈ fp, H' b = none) ∧ W i n σ' H') ?_ m0 ⟨Nat.le_trans t1 t2, 0, σ, H2, I2, st2, fun b hb => (f2 b hb).1, w0⟩
    rintro n s3 ⟨t3, i, σ3, H3, I3, st3, fr3, w3⟩
    rcases turn i n σ3 H3 w3 with ⟨stop, qn⟩ | ⟨go, N, hN, step⟩
    · refine wpAny_passesOwn hp (thk (T.done X rfl rfl rfl hc i pins s3 σ3 H3 X.xe I3 (stat fr3) st3 stop) fun r s4 t4 ⟨hr, k4, I4⟩ => ?_)
      subst hr
      exact wpAny_execs_nil ⟨Nat.le_trans t3 t4, σ3, H3, I4, qn⟩
    · refine wpAny_passesOwn hp (thk (T.item X rfl rfl rfl hc i pins s3 σ3 H3 X.xe I3 (stat fr3) st3 go) fun r s4 t4 ⟨u, hr, h4⟩ => ?_)
      subst hr
      refine wpAny_passesOwn hp (thk h4 fun _ s5 t5 ⟨k5, x, I5, r5, y5, st5⟩ => ?_)
      have I5' := I5.pinned (stat fr3) (T.obj _ _ st5)
      refine wpAny_passesOwn hp (thk (hg.run _ s5 σ3 H3 x u _ I5' r5 (step x H3 y5)) fun _ s6 t6 ⟨k6, σ6, H6, z6, I6, q6⟩ => ?_)
      have t06 : s.toks ≤ s6.toks := by omega
      obtain ⟨m6, hm6, _⟩ := id I6.loc
      have nz6 : Nz X n0 [] s6 H6 := ⟨Nat.le_trans nz.1 t06, m6, hm6, fun f hf => absurd hf (by simp)⟩
      refine wpAny_passesOwn hp (thk (hb.run _ s6 σ6 H6 { D with nx := N, ct := N, bk := tu D } I6 nz6 q6) fun f s7 t7 q7 => ?_)
      have again : ∀ {σ7 : L2.St} {H7 : Hp}, Inv X (pins ++ pinsAt fp s5.heap) σ7 H7 s7 → N σ7 H7 → ∃ m, m < n ∧ s.toks ≤ s7.toks ∧ ∃ i σ' H', Inv X pins σ' H' s7 ∧ tn i s7.heap ∧ (∀ b ∈ fp, H' b = none) ∧ W i m σ' H' := fun {σ7 H7} I7 n7 => by
        obtain ⟨m', hm, w7⟩ := hN σ7 H7 n7
        refine ⟨m', hm, by omega, i + 1, σ7, H7, I7.unpinned, T.keep _ _ _ st5 fun b hb o e => (I7.pin (b, o) (List.mem_append_right _ (List.mem_append_right _ (mem_pinsAt hb e)))).1, fun b hb => ?_, w7⟩
        obtain ⟨o, e, d⟩ := T.obj _ _ st5 b hb
        exact (I7.pin (b, o) (List.mem_append_right _ (List.mem_append_right _ (mem_pinsAt hb e)))).2.1
      cases f with
      | next => obtain ⟨σ7, H7, I7, n7⟩ := q7; exact again I7 n7
      | cont => obtain ⟨σ7, H7, I7, n7⟩ := q7; exact again I7 n7
      | brk => obtain ⟨σ7, H7, I7, q7⟩ := q7; exact ⟨by omega, σ7, H7, I7.unpinned, q7⟩
      | ret v => obtain ⟨x7, σ7, H7, I7, r7, q7⟩ := q7; exact ⟨by omega, x7, σ7, H7, I7.unpinned, r7, q7⟩
  refine wpAny_execs_cons (thn go fun f s1 q1 => ?_)
  obtain ⟨t1, q1⟩ := q1
  cases f with
  | next =>
    obtain ⟨σ', H', I', q⟩ := q1
    obtain ⟨m, hm, _⟩ := id I'.loc
    exact h2.run pins s1 σ' H' D I' ⟨Nat.le_trans nz.1 t1, m, hm, fun f hf => absurd hf (by simp)⟩ q
  | ret v => exact q1
  | brk => exact q1
  | cont => exact q1
theorem pb_for0 (hp : PassesOwn (model X.prog X.w) X.A X.env X.xe) (hi : JNI X n0 [] tg iter wi mi) (hg : JKG X [] tg g js f) (hb : JPB X n0 [] W body tb m) (h2 : JPB X n0 [] W sts tu mu) (hc : X.calm = true := by rfl)
    (hs : ∀ x, foldedSetIterable iter X.env x = pure x := by intro _; rfl) : JPB X n0 [] W (.For tg iter body [] pos :: sts) (tSeq (tFor wi g tb) tu) (mSeq (mFor mi f m) mu) :=
  ⟨pbn_for0 hp hc hi.p hg.p hb.p h2.p hs, sm_seq (sm_for hi.m hg.m hb.m) h2.m⟩
end
end DD

set_option Elab.async false
set_option linter.all false
set_option maxRecDepth 100000
set_option maxHeartbeats 4000000
/-! DD23: == as a value and int(x) of a truth value, where tokens are kept. -/
namespace DD
open PySem PySem.Spec PyProof.Rows L2 Evl PySem.W
section
variable {X : Cx} {ν : List Str} {a b e : Expr} {ta tb te : TE} {ma mb me : ME} {pos p2 : Pos} {j : Nat}
theorem opk_eqP (hr : Room j X.A) : OpK X (compareOp .Eq) (rDat2 X.K eqC PyData.eqv) := by
  intro pins s σ H x y v u Q I rx ry h
  obtain ⟨d, e, hd, he, hc, q⟩ := h
  simp only [eqC, Bool.and_eq_true] at hc
  obtain ⟨as, r1⟩ := Dp.reads I d x v hd rx
  obtain ⟨bs, r2⟩ := Dp.reads I e y u he ry
  exact SeqAt.eq_plain r1 r2 hc.1.1 hc.1.2 (room180 hr hc.2) (ev_same I (x := .bl _) rfl q)
theorem k_eqP (hr : Room j X.A) (ha : JKE X ν a ta ma) (hb : JKE X ν b tb mb) (hm : behindInMarks .Eq b = false := by first | exact nomark _ | rfl) {K : PySem.W.Frag} (hK : X.K = K := by rfl) :
    JKE X ν (.Compare a [.Eq] [b] pos) (tOp (rDat2 K eqC PyData.eqv) ta tb) (mOp eqP ma mb) := by
  subst hK
  exact ⟨pek_cmp (opk_eqP hr) ha.p hb.p hm, em_op r2_eqP ha.m hb.m⟩
theorem callk_intB : CallK X (.type "int") rIntC := by
  intro pins s σ H xs us Q I r h
  rcases h with (⟨i, rfl, q⟩ | ⟨k, rfl, q⟩) | ⟨a, n, rfl, h1, h2, q⟩
  · obtain ⟨u, rfl, t, rfl⟩ := vals1 r
    exact call_int_int (ev_same I (x := .int i) ⟨_, rfl⟩ q)
  · obtain ⟨u, rfl, r1⟩ := vals1 r
    cases r1
    exact call_int_bool (ev_tok I (x := .int (if k then 1 else 0)) ⟨_, rfl⟩ q)
  · cases r with
    | cons r1 rs =>
      cases rs
      obtain ⟨t, rfl⟩ := r1
      exact PySem.W.KIN.call_text h1 h2 (ev_tok I (x := .int n) ⟨_, rfl⟩ q)
theorem k_intB {x : Expr} {tx : TE} {mx : ME} (hm : X.mg "int" = none) (ha : JKE X ν x tx mx) (hg : Gl X "int" := by rfl) (he : starEach [x] X.env = (false, eval x X.env) :: starEach [] X.env := by rfl) (hpl : (backTo pos (starEach [] X.env)).any (·.1) = false := by rfl) :
    JKE X ν (.Call (.Name "int" p2) [x] [] pos) (tCB rIntC (tCons tx tNil)) (mCall intF (mCons mx mNil)) :=
  ⟨pek_callTy callk_intB hg hm (by decide +kernel) (pak_cons ha.p pak_nil he) (by decide) (by decide) he hpl, em_cb rc_int (am_cons ha.m am_nil)⟩
theorem ixk_tup : IxK X (rIxT X.K) := by
  intro value slice pins s σ H x y v u Q I rx ry h hs
  obtain ⟨p, xs, i, z, rfl, rfl, hq, he, q⟩ := h
  cases rx
  obtain ⟨t, rfl⟩ := ry
  obtain ⟨its, r, pl, hz⟩ := I.tuple hq
  obtain ⟨j, h1, h2, h3, h4, h5⟩ := atI_get he
  obtain ⟨w, ew, rw'⟩ := r.get h2
  have hl := r.length
  have hn := line63
  have fin : EV X pins σ s H Q w s := ev_same I rw' q
  exact subscriptTail_builtinR (x := w) pl.typeIs slot_tuple_getitem.lookup
    (getItem_tuple (j := j) (Q := fun r s' => r = w ∧ EV X pins σ s H Q r s') pl (by omega) (by omega) (by rw [List.size_toArray, ← hl]; exact h1) (by simpa using ew) ⟨rfl, fin⟩) hs
theorem ixk_str : IxK X rIxS := by
  intro value slice pins s σ H x y v u Q I rx ry h hs
  obtain ⟨z, i, c, rfl, rfl, hz, he, q⟩ := h
  obtain ⟨t, rfl⟩ := rx
  obtain ⟨t', rfl⟩ := ry
  obtain ⟨j, h1, h2, h3, h4, h5⟩ := atI_get he
  have hl : z.cps.toList.length = z.length := by simp [Str.length]
  rw [hl] at h1 h4 h5
  have hn := line63
  exact tail_any (typeIs_str s z t) slot_str_getitem.lookup (getItem_str (c := c) (by
    have e1 : decide (i < -(2 ^ 63 : Int)) = false := decide_eq_false (by omega)
    have e2 : decide (i ≥ 2 ^ 63) = false := decide_eq_false (by omega)
    rw [e1, e2, Bool.or_false]) (by rw [h1]; simpa using h2) (ev_tok I (x := .str ⟨#[c]⟩) ⟨_, rfl⟩ q)) hs
theorem ixk_seq : IxK X (rIx X.K) := by
  intro value slice pins s σ H x y v u Q I rx ry q hs
  rcases q with q | q | q
  · exact ixk_list value slice pins s σ H x y v u Q I rx ry q hs
  · exact ixk_tup value slice pins s σ H x y v u Q I rx ry q hs
  · exact ixk_str value slice pins s σ H x y v u Q I rx ry q hs
theorem k_ixA (ha : JKE X ν a ta ma) (hb : JKE X ν b tb mb) (hs : PlainIx b := by exact fun _ _ => rfl) {K : PySem.W.Frag} (hK : X.K = K := by rfl) : JKE X ν (.Subscript a b pos) (tOp (rIx K) ta tb) (mOp ixD ma mb) := by
  subst hK
  exact ⟨pek_ix ixk_seq ha.p hb.p hs, em_op r2_ix ha.m hb.m⟩
end
end DD

set_option Elab.async false
set_option linter.all false
set_option maxRecDepth 100000
set_option maxHeartbeats 8000000
namespace KN
open PySem PySem.Spec PyProof.Rows L2 Evl DD
def topS (i : Nat) : Stmt := PySem.Challenge.pw_treesasked_k88_notes_of_tables.main.body.getD i (.Pass ⟨0, 0, 0, 0⟩)
def d_WORDS : D := .tup [.str "and", .str "or", .str "not"]
/-- what the top has left: built-ins, constants -/
structure Tx (K : PySem.W.Frag) (mg : Str → Option Value) : Prop where
  b_all : mg "all" = none
  b_enumerate : mg "enumerate" = none
  b_int : mg "int" = none
  b_isinstance : mg "isinstance" = none
  b_len : mg "len" = none
  b_list : mg "list" = none
  b_range : mg "range" = none
  b_sorted : mg "sorted" = none
  b_str : mg "str" = none
  b_tuple : mg "tuple" = none
  b_zip : mg "zip" = none
  g_COLON : ∃ u, mg "COLON" = some u ∧ RelV (.str ":") u
  g_FIGURES : ∃ u, mg "FIGURES" = some u ∧ RelV (.str "0123456789") u
  g_LETTERS : ∃ u, mg "LETTERS" = some u ∧ RelV (.str "abcdefghijklmnopqrstuvwxyz") u
  g_MOST_FIGURES : ∃ u, mg "MOST_FIGURES" = some u ∧ RelV (.int 6) u
  g_MOST_SIGNS : ∃ u, mg "MOST_SIGNS" = some u ∧ RelV (.int 8) u
  g_NOTHING : ∃ u, mg "NOTHING" = some u ∧ RelV (.str "-") u
  g_PARTED : ∃ u, mg "PARTED" = some u ∧ RelV (.str ";") u
  g_SLASH : ∃ u, mg "SLASH" = some u ∧ RelV (.str "/") u
  g_WORDS : ∃ v : V, (∃ u, mg "WORDS" = some u ∧ RelV v u) ∧ ∀ G, Rp K G v d_WORDS
section
variable {P : Program} {w : World} {K : PySem.W.Frag} {mg : Str → Option Value} {base : Heap}
abbrev s_lines_of : Stmt := topS 7
abbrev N_lines_of : List Str := ["text"]
theorem sc_lines_of : FnScope N_lines_of ["text"] (defScope s_lines_of) := ⟨rfl, rfl, rfl, by decide +kernel, rfl, by decide +kernel, by decide +kernel⟩
def m_lines_of : MS := (mRet (mMeth splitD (mVar 0) (mCons (mC (.str "\n")) mNil)))
def F_lines_of : List D → Option D := runF N_lines_of 1 (m_lines_of)
theorem fn_lines_of (T : Tx K mg) {f : Addr} {fd : FuncData} (F : Fun K "lines_of" "lines_of" s_lines_of f fd) (hb : Binds K fd ["text"] []) (hg : mg "lines_of" = some (.ref f)) :
    FnD P w K mg base f "lines_of" 2 1 (F_lines_of) := by
  refine fnD_of (m := m_lines_of) F sc_lines_of hb hg rfl (fun cdv A0 outer s H E hr => ?_)
  have nd : N_lines_of.Nodup := sc_lines_of.nd
  exact ⟨_, (b_one (s_ret (j_bm (K := K) (m_split (K := K)) (j_var 0) (a_cons j_str a_nil))))⟩

abbrev s_words_of : Stmt := topS 8
abbrev N_words_of : List Str := ["line"]
theorem sc_words_of : FnScope N_words_of ["line"] (defScope s_words_of) := ⟨rfl, rfl, rfl, by decide +kernel, rfl, by decide +kernel, by decide +kernel⟩
def m_words_of : MS := (mRet (mMeth splitD (mVar 0) (mCons (mC (.str " ")) mNil)))
def F_words_of : List D → Option D := runF N_words_of 1 (m_words_of)
theorem fn_words_of (T : Tx K mg) {f : Addr} {fd : FuncData} (F : Fun K "words_of" "words_of" s_words_of f fd) (hb : Binds K fd ["line"] []) (hg : mg "words_of" = some (.ref f)) :
    FnD P w K mg base f "words_of" 2 1 (F_words_of) := by
  refine fnD_of (m := m_words_of) F sc_words_of hb hg rfl (fun cdv A0 outer s H E hr => ?_)
  have nd : N_words_of.Nodup := sc_words_of.nd
  exact ⟨_, (b_one (s_ret (j_bm (K := K) (m_split (K := K)) (j_var 0) (a_cons j_str a_nil))))⟩

abbrev s_number_of : Stmt := topS 9
abbrev N_number_of : List Str := ["word", "sign"]
theorem sc_number_of : FnScope N_number_of ["word"] (defScope s_number_of) := ⟨rfl, rfl, rfl, by decide +kernel, rfl, by decide +kernel, by decide +kernel⟩
def m_number_of : MS := (mSeq (mIfS (mOr (mNot (mTest (mChain leP leP (mC (.int 1)) (mCall lenD (mCons (mVar 0) mNil)) (mC (.int 6))))) (mNot (mTru (mCall allD (mCons (mLst (mLc (mItems (mVar 0)) (gN 1) mYes (mOp inP (mVar 1) (mC (.str "0123456789"))) [1])) mNil))))) (mRet (mC .non)) mNext) (mRet (mIf (mAnd (mTest (mOp gtP (mCall lenD (mCons (mVar 0) mNil)) (mC (.int 1)))) (mTest (mOp eqP (mOp ixD (mVar 0) (mC (.int 0))) (mC (.str "0"))))) (mC .non) (mCall intF (mCons (mVar 0) mNil)))))
def F_number_of : List D → Option D := runF N_number_of 1 (m_number_of)
theorem fn_number_of (T : Tx K mg) {f : Addr} {fd : FuncData} (F : Fun K "number_of" "number_of" s_number_of f fd) (hb : Binds K fd ["word"] []) (hg : mg "number_of" = some (.ref f)) :
    FnD P w K mg base f "number_of" 2 1 (F_number_of) := by
  refine fnD_of (m := m_number_of) F sc_number_of hb hg rfl (fun cdv A0 outer s H E hr => ?_)
  have nd : N_number_of.Nodup := sc_number_of.nd
  exact ⟨_, (b_cons (s_if (t_w (w_or (t_not (t_chain (c_leP hr (K := K)) (c_leP hr (K := K)) j_int (j_cb (b_len (K := K)) T.b_len (a_cons (j_var 0) a_nil)) (j_glob T.g_MOST_FIGURES))) (w_or1 (t_not (t_tru (K := K) (j_cb (b_all (K := K)) T.b_all (a_cons (j_f (f_lc (own := [("sign", 1)]) nd (by exact (i_any (K := K) (j_var 0))) (by exact blkOk_by (N := N_number_of) (sc := defScope s_number_of) (by decide +kernel)) (by exact fun _ _ _ _ _ => (g_name 1 nd)) (by exact fun _ _ _ _ _ => ts_nil) (by exact fun _ _ _ _ _ => (j_cmp (c_inP hr (K := K)) (j_var 1) (j_glob T.g_FIGURES))))) a_nil))))))) (b_one (s_ret j_non)) b_nil) (b_one (s_ret (j_if (t_w (w_and (t_cmp (c_gtP hr (K := K)) (j_cb (b_len (K := K)) T.b_len (a_cons (j_var 0) a_nil)) j_int) (w_and1 (t_cmp (c_eqP hr (K := K)) (j_ix (K := K) (j_var 0) j_int) j_str)))) j_non (j_ct b_int T.b_int (a_cons (j_var 0) a_nil))))))⟩

abbrev s_numbers_of : Stmt := topS 10
abbrev N_numbers_of : List Str := ["words", "found", "word"]
theorem sc_numbers_of : FnScope N_numbers_of ["words"] (defScope s_numbers_of) := ⟨rfl, rfl, rfl, by decide +kernel, rfl, by decide +kernel, by decide +kernel⟩
def m_numbers_of : MS := (mSeq (mAsg 1 (mLst (mLc (mItems (mVar 0)) (gN 2) mYes (mCall F_number_of (mCons (mVar 2) mNil)) [2]))) (mRet (mIf (mTest (mOp inP (mC .non) (mVar 1))) (mC .non) (mVar 1))))
def F_numbers_of : List D → Option D := runF N_numbers_of 1 (m_numbers_of)
theorem fn_numbers_of (T : Tx K mg) {f : Addr} {fd : FuncData} (F : Fun K "numbers_of" "numbers_of" s_numbers_of f fd) (hb : Binds K fd ["words"] []) (hg : mg "numbers_of" = some (.ref f)) {b_number_of : Addr} (C_number_of : FnD P w K mg base b_number_of "number_of" 2 1 F_number_of) :
    FnD P w K mg base f "numbers_of" 3 1 (F_numbers_of) := by
  refine fnD_of (m := m_numbers_of) F sc_numbers_of hb hg rfl (fun cdv A0 outer s H E hr => ?_)
  have nd : N_numbers_of.Nodup := sc_numbers_of.nd
  exact ⟨_, (b_cons (s_setLc (own := [("word", 2)]) 1 nd (by exact (i_any (K := K) (j_var 0))) (by exact blkOk_by (N := N_numbers_of) (sc := defScope s_numbers_of) (by decide +kernel)) (by exact fun _ _ _ _ _ => (g_name 2 nd)) (by exact fun _ _ _ _ _ => ts_nil) (by exact fun _ _ _ _ _ => (j_call (K := K) C_number_of hr (a_cons (j_var 2) a_nil)))) (b_one (s_ret (j_if (t_cmp (c_inP hr (K := K)) j_non (j_var 1)) j_non (j_var 1)))))⟩

abbrev s_is_rising : Stmt := topS 11
abbrev N_is_rising : List Str := ["listed", "before", "after"]
theorem sc_is_rising : FnScope N_is_rising ["listed"] (defScope s_is_rising) := ⟨rfl, rfl, rfl, by decide +kernel, rfl, by decide +kernel, by decide +kernel⟩
def m_is_rising : MS := (mRet (mCall allD (mCons (mLst (mLc (mZip (mCons (mVar 0) (mCons (mSl slD (mVar 0) (mPart (mC (.int 1))) mNoPart) mNil))) (gT [1, 2]) mYes (mOp ltP (mVar 1) (mVar 2)) [1, 2])) mNil)))
def F_is_rising : List D → Option D := runF N_is_rising 1 (m_is_rising)
theorem fn_is_rising (T : Tx K mg) {f : Addr} {fd : FuncData} (F : Fun K "is_rising" "is_rising" s_is_rising f fd) (hb : Binds K fd ["listed"] []) (hg : mg "is_rising" = some (.ref f)) :
    FnD P w K mg base f "is_rising" 2 1 (F_is_rising) := by
  refine fnD_of (m := m_is_rising) F sc_is_rising hb hg rfl (fun cdv A0 outer s H E hr => ?_)
  have nd : N_is_rising.Nodup := sc_is_rising.nd
  exact ⟨_, (b_one (s_ret (j_cb (b_all (K := K)) T.b_all (a_cons (j_f (f_lc (own := [("before", 1), ("after", 2)]) nd (by exact (i_zip (K := K) T.b_zip (a_cons (j_var 0) (a_cons (j_sl (K := K) (j_var 0) (o_some j_int) o_none) a_nil)))) (by exact blkOk_by (N := N_is_rising) (sc := defScope s_is_rising) (by decide +kernel)) (by exact fun _ _ _ _ _ => (g_tup (K := K) (gs_cons 1 nd (gs_cons 2 nd gs_nil)))) (by exact fun _ _ _ _ _ => ts_nil) (by exact fun _ _ _ _ _ => (j_cmp (c_ltP hr (K := K)) (j_var 1) (j_var 2))))) a_nil))))⟩

abbrev s_read_lines : Stmt := topS 12
abbrev N_read_lines : List Str := ["text", "form", "found", "index", "line", "told"]
theorem sc_read_lines : FnScope N_read_lines ["text", "form"] (defScope s_read_lines) := ⟨rfl, rfl, rfl, by decide +kernel, rfl, by decide +kernel, by decide +kernel⟩
def m_read_lines (Tb : Addr → Option (List D → Option D)) (c_BadLine : Addr) : MS := (mSeq (mAsgO 2 (few mNil)) (mSeq (mFor (mEnum (mCons (mCall F_lines_of (mCons (mVar 0) mNil)) mNil)) (gT [3, 4]) (mSeq (mAsg 5 (mCallA 1 Tb (mCons (mVar 4) mNil))) (mSeq (mIfS (mTest (mOp isND (mVar 5) (mC .non))) (mRaise c_BadLine "line" (mVar 3)) mNext) (mApp 2 (mVar 5))))) (fun ρ => (mRet (mVar 2)) (frz 2 ρ))))
def F_read_lines (Tb : Addr → Option (List D → Option D)) (c_BadLine : Addr) : List D → Option Res := runX N_read_lines 2 (m_read_lines Tb c_BadLine)
theorem fn_read_lines (T : Tx K mg) {f : Addr} {fd : FuncData} (F : Fun K "read_lines" "read_lines" s_read_lines f fd) (hb : Binds K fd ["text", "form"] []) (hg : mg "read_lines" = some (.ref f)) {Tb : Addr → Option (List D → Option D)} {c_BadLine : Addr} (A : ∀ f F, Tb f = some F → HeldD P w K mg base 9 1 f F) {b_lines_of : Addr} (C_lines_of : FnD P w K mg base b_lines_of "lines_of" 2 1 F_lines_of) (E_BadLine : ErrT P w K mg base "BadLine" c_BadLine "line") :
    FnX P w K mg base f "read_lines" 10 2 (F_read_lines Tb c_BadLine) := by
  refine fnX_of (m := m_read_lines Tb c_BadLine) F sc_read_lines hb hg rfl (fun cdv A0 outer s H E hr => ?_)
  have nd : N_read_lines.Nodup := sc_read_lines.nd
  have tk : Takes (cxOf (L2.CX P w) P w K mg base N_read_lines "read_lines" (defScope s_read_lines) f cdv A0 outer s H E) (WD E) := takes_of rfl rfl rfl rfl
  exact ⟨_, (b_cons (s_setO 2 nd (f_lst a_nil)) (b_cons (s_for (passes_of rfl) (i_enum (K := K) T.b_enumerate (a_cons (j_call (K := K) C_lines_of hr (a_cons (j_var 0) a_nil)) a_nil)) (g_tup (K := K) (gs_cons 3 nd (gs_cons 4 nd gs_nil))) (b_cons (s_set 5 nd (j_callA 1 1 (K := K) A (hr.mono (by decide)) (a_cons (j_var 4) a_nil))) (b_cons (s_if (t_cmp c_is (j_var 5) j_non) (b_one (s_raise E_BadLine hr tk (j_var 3))) b_nil) (b_one (s_app (K := K) 2 (j_var 5)))))) (b_frz 2 (b_one (s_ret (j_var 2))))))⟩

abbrev s_read_any : Stmt := topS 13
abbrev N_read_any : List Str := ["text", "form"]
theorem sc_read_any : FnScope N_read_any ["text", "form"] (defScope s_read_any) := ⟨rfl, rfl, rfl, by decide +kernel, rfl, by decide +kernel, by decide +kernel⟩
def m_read_any (Tb : Addr → Option (List D → Option D)) (c_BadLine : Addr) : MS := (mRetX (mIfX (mTest (mOp eqP (mVar 0) (mC (.str "")))) (mOk (mLst (few mNil))) (mCallX (F_read_lines Tb c_BadLine) (mCons (mVar 0) (mCons (mVar 1) mNil)))))
def F_read_any (Tb : Addr → Option (List D → Option D)) (c_BadLine : Addr) : List D → Option Res := runX N_read_any 2 (m_read_any Tb c_BadLine)
theorem fn_read_any (T : Tx K mg) {f : Addr} {fd : FuncData} (F : Fun K "read_any" "read_any" s_read_any f fd) (hb : Binds K fd ["text", "form"] []) (hg : mg "read_any" = some (.ref f)) {Tb : Addr → Option (List D → Option D)} {c_BadLine : Addr} {b_read_lines : Addr} (C_read_lines : FnX P w K mg base b_read_lines "read_lines" 10 2 (F_read_lines Tb c_BadLine)) :
    FnX P w K mg base f "read_any" 11 2 (F_read_any Tb c_BadLine) := by
  refine fnX_of (m := m_read_any Tb c_BadLine) F sc_read_any hb hg rfl (fun cdv A0 outer s H E hr => ?_)
  have nd : N_read_any.Nodup := sc_read_any.nd
  have tk : Takes (cxOf (L2.CX P w) P w K mg base N_read_any "read_any" (defScope s_read_any) f cdv A0 outer s H E) (WD E) := takes_of rfl rfl rfl rfl
  exact ⟨_, (b_one (s_retX (x_if (t_cmp (c_eqP hr (K := K)) (j_var 0) j_str) (x_of (j_f (f_lst a_nil))) (x_call (K := K) C_read_lines hr tk (a_cons (j_var 0) (a_cons (j_var 1) a_nil))))))⟩

abbrev s_first_fallen : Stmt := topS 14
abbrev N_first_fallen : List Str := ["keys", "index"]
theorem sc_first_fallen : FnScope N_first_fallen ["keys"] (defScope s_first_fallen) := ⟨rfl, rfl, rfl, by decide +kernel, rfl, by decide +kernel, by decide +kernel⟩
def m_first_fallen : MS := (mSeq (mFor (mRange2 (mCons (mC (.int 1)) (mCons (mCall lenD (mCons (mVar 0) mNil)) mNil))) (gN 1) (mIfS (mTest (mOp leP (mOp ixD (mVar 0) (mVar 1)) (mOp ixD (mVar 0) (mOp subD (mVar 1) (mC (.int 1)))))) (mRet (mVar 1)) mNext)) (mRet (mC .non)))
def F_first_fallen : List D → Option D := runF N_first_fallen 1 (m_first_fallen)
theorem fn_first_fallen (T : Tx K mg) {f : Addr} {fd : FuncData} (F : Fun K "first_fallen" "first_fallen" s_first_fallen f fd) (hb : Binds K fd ["keys"] []) (hg : mg "first_fallen" = some (.ref f)) :
    FnD P w K mg base f "first_fallen" 2 1 (F_first_fallen) := by
  refine fnD_of (m := m_first_fallen) F sc_first_fallen hb hg rfl (fun cdv A0 outer s H E hr => ?_)
  have nd : N_first_fallen.Nodup := sc_first_fallen.nd
  exact ⟨_, (b_cons (s_for PassesOwn.never (i_range2 T.b_range (a_cons j_int (a_cons (j_cb (b_len (K := K)) T.b_len (a_cons (j_var 0) a_nil)) a_nil))) (g_name 1 nd) (b_one (s_if (t_cmp (c_leP hr (K := K)) (j_ix (K := K) (j_var 0) (j_var 1)) (j_ix (K := K) (j_var 0) (j_sub (j_var 1) j_int))) (b_one (s_ret (j_var 1))) b_nil))) (b_one (s_ret j_non)))⟩

abbrev s_are_letters : Stmt := topS 19
abbrev N_are_letters : List Str := ["text", "sign"]
theorem sc_are_letters : FnScope N_are_letters ["text"] (defScope s_are_letters) := ⟨rfl, rfl, rfl, by decide +kernel, rfl, by decide +kernel, by decide +kernel⟩
def m_are_letters : MS := (mRet (mCall allD (mCons (mLst (mLc (mItems (mVar 0)) (gN 1) mYes (mOp inP (mVar 1) (mC (.str "abcdefghijklmnopqrstuvwxyz"))) [1])) mNil)))
def F_are_letters : List D → Option D := runF N_are_letters 1 (m_are_letters)
theorem fn_are_letters (T : Tx K mg) {f : Addr} {fd : FuncData} (F : Fun K "are_letters" "are_letters" s_are_letters f fd) (hb : Binds K fd ["text"] []) (hg : mg "are_letters" = some (.ref f)) :
    FnD P w K mg base f "are_letters" 2 1 (F_are_letters) := by
  refine fnD_of (m := m_are_letters) F sc_are_letters hb hg rfl (fun cdv A0 outer s H E hr => ?_)
  have nd : N_are_letters.Nodup := sc_are_letters.nd
  exact ⟨_, (b_one (s_ret (j_cb (b_all (K := K)) T.b_all (a_cons (j_f (f_lc (own := [("sign", 1)]) nd (by exact (i_any (K := K) (j_var 0))) (by exact blkOk_by (N := N_are_letters) (sc := defScope s_are_letters) (by decide +kernel)) (by exact fun _ _ _ _ _ => (g_name 1 nd)) (by exact fun _ _ _ _ _ => ts_nil) (by exact fun _ _ _ _ _ => (j_cmp (c_inP hr (K := K)) (j_var 1) (j_glob T.g_LETTERS))))) a_nil))))⟩

abbrev s_is_label : Stmt := topS 20
abbrev N_is_label : List Str := ["value"]
theorem sc_is_label : FnScope N_is_label ["value"] (defScope s_is_label) := ⟨rfl, rfl, rfl, by decide +kernel, rfl, by decide +kernel, by decide +kernel⟩
def m_is_label : MS := (mSeq (mIfS (mOr (mNot (mTru (mCall isiD (mCons (mVar 0) (mCons (mC (.ty "str")) mNil))))) (mNot (mTest (mChain leP leP (mC (.int 1)) (mCall lenD (mCons (mVar 0) mNil)) (mC (.int 8)))))) (mRet (mC (.bl false))) mNext) (mRet (mAndT (mCall F_are_letters (mCons (mVar 0) mNil)) (mOp ninP (mVar 0) (mK d_WORDS)))))
def F_is_label : List D → Option D := runF N_is_label 1 (m_is_label)
theorem fn_is_label (T : Tx K mg) {f : Addr} {fd : FuncData} (F : Fun K "is_label" "is_label" s_is_label f fd) (hb : Binds K fd ["value"] []) (hg : mg "is_label" = some (.ref f)) {b_are_letters : Addr} (C_are_letters : FnD P w K mg base b_are_letters "are_letters" 2 1 F_are_letters) :
    FnD P w K mg base f "is_label" 3 1 (F_is_label) := by
  obtain ⟨v_WORDS, h_WORDS⟩ := T.g_WORDS
  refine fnD_of (m := m_is_label) F sc_is_label hb hg rfl (fun cdv A0 outer s H E hr => ?_)
  have nd : N_is_label.Nodup := sc_is_label.nd
  exact ⟨_, (b_cons (s_if (t_w (w_or (t_not (t_tru (K := K) (j_cb (b_isi (K := K)) T.b_isinstance (a_cons (j_var 0) (a_cons (j_ty T.b_str) a_nil))))) (w_or1 (t_not (t_chain (c_leP hr (K := K)) (c_leP hr (K := K)) j_int (j_cb (b_len (K := K)) T.b_len (a_cons (j_var 0) a_nil)) (j_glob T.g_MOST_SIGNS)))))) (b_one (s_ret j_bl)) b_nil) (b_one (s_ret (j_andT (j_call (K := K) C_are_letters hr (a_cons (j_var 0) a_nil)) (j_one (j_cmp (c_ninP hr (K := K)) (j_var 0) (j_globD (K := K) h_WORDS))) (K := K)))))⟩

abbrev s_atom_words : Stmt := topS 26
abbrev N_atom_words : List Str := ["atoms", "atom"]
theorem sc_atom_words : FnScope N_atom_words ["atoms"] (defScope s_atom_words) := ⟨rfl, rfl, rfl, by decide +kernel, rfl, by decide +kernel, by decide +kernel⟩
def m_atom_words : MS := (mRet (mLst (mLc (mItems (mVar 0)) (gN 1) mYes (mCall strD (mCons (mVar 1) mNil)) [1])))
def F_atom_words : List D → Option D := runF N_atom_words 1 (m_atom_words)
theorem fn_atom_words (T : Tx K mg) {f : Addr} {fd : FuncData} (F : Fun K "atom_words" "atom_words" s_atom_words f fd) (hb : Binds K fd ["atoms"] []) (hg : mg "atom_words" = some (.ref f)) :
    FnD P w K mg base f "atom_words" 2 1 (F_atom_words) := by
  refine fnD_of (m := m_atom_words) F sc_atom_words hb hg rfl (fun cdv A0 outer s H E hr => ?_)
  have nd : N_atom_words.Nodup := sc_atom_words.nd
  exact ⟨_, (b_one (s_ret (j_f (f_lc (own := [("atom", 1)]) nd (by exact (i_any (K := K) (j_var 0))) (by exact blkOk_by (N := N_atom_words) (sc := defScope s_atom_words) (by decide +kernel)) (by exact fun _ _ _ _ _ => (g_name 1 nd)) (by exact fun _ _ _ _ _ => ts_nil) (by exact fun _ _ _ _ _ => (j_ct b_str T.b_str (a_cons (j_var 1) a_nil)))))))⟩

abbrev s_kind_words : Stmt := topS 27
abbrev N_kind_words : List Str := ["kind", "label", "near", "below"]
theorem sc_kind_words : FnScope N_kind_words ["kind"] (defScope s_kind_words) := ⟨rfl, rfl, rfl, by decide +kernel, rfl, by decide +kernel, by decide +kernel⟩
def m_kind_words : MS := (mSeq (mAsgG (gT [1, 2, 3]) (mVar 0)) (mRet (mOp addD (mOp addD (mOp addD (mLst (few (mCons (mVar 1) (mCons (mC (.str ":")) mNil)))) (mCall F_atom_words (mCons (mVar 2) mNil))) (mLst (few (mCons (mC (.str ":")) mNil)))) (mCall F_atom_words (mCons (mVar 3) mNil)))))
def F_kind_words : List D → Option D := runF N_kind_words 1 (m_kind_words)
theorem fn_kind_words (T : Tx K mg) {f : Addr} {fd : FuncData} (F : Fun K "kind_words" "kind_words" s_kind_words f fd) (hb : Binds K fd ["kind"] []) (hg : mg "kind_words" = some (.ref f)) {b_atom_words : Addr} (C_atom_words : FnD P w K mg base b_atom_words "atom_words" 2 1 F_atom_words) :
    FnD P w K mg base f "kind_words" 3 1 (F_kind_words) := by
  refine fnD_of (m := m_kind_words) F sc_kind_words hb hg rfl (fun cdv A0 outer s H E hr => ?_)
  have nd : N_kind_words.Nodup := sc_kind_words.nd
  exact ⟨_, (b_cons (s_asgG (g_tup (K := K) (gs_cons 1 nd (gs_cons 2 nd (gs_cons 3 nd gs_nil)))) (j_var 0)) (b_one (s_ret (j_add (K := K) (j_add (K := K) (j_add (K := K) (j_f (f_lst (a_cons (j_var 1) (a_cons (j_glob T.g_COLON) a_nil)))) (j_call (K := K) C_atom_words hr (a_cons (j_var 2) a_nil))) (j_f (f_lst (a_cons (j_glob T.g_COLON) a_nil)))) (j_call (K := K) C_atom_words hr (a_cons (j_var 3) a_nil))))))⟩

abbrev s_waiting_words : Stmt := topS 28
abbrev N_waiting_words : List Str := ["waiting", "here", "below"]
theorem sc_waiting_words : FnScope N_waiting_words ["waiting"] (defScope s_waiting_words) := ⟨rfl, rfl, rfl, by decide +kernel, rfl, by decide +kernel, by decide +kernel⟩
def m_waiting_words : MS := (mSeq (mIfS (mTest (mOp isND (mVar 0) (mC .non))) (mRet (mLst (few (mCons (mC (.str "-")) mNil)))) mNext) (mSeq (mAsgG (gT [1, 2]) (mVar 0)) (mRet (mOp addD (mOp addD (mCall F_atom_words (mCons (mVar 1) mNil)) (mLst (few (mCons (mC (.str "/")) mNil)))) (mCall F_atom_words (mCons (mVar 2) mNil))))))
def F_waiting_words : List D → Option D := runF N_waiting_words 1 (m_waiting_words)
theorem fn_waiting_words (T : Tx K mg) {f : Addr} {fd : FuncData} (F : Fun K "waiting_words" "waiting_words" s_waiting_words f fd) (hb : Binds K fd ["waiting"] []) (hg : mg "waiting_words" = some (.ref f)) {b_atom_words : Addr} (C_atom_words : FnD P w K mg base b_atom_words "atom_words" 2 1 F_atom_words) :
    FnD P w K mg base f "waiting_words" 3 1 (F_waiting_words) := by
  refine fnD_of (m := m_waiting_words) F sc_waiting_words hb hg rfl (fun cdv A0 outer s H E hr => ?_)
  have nd : N_waiting_words.Nodup := sc_waiting_words.nd
  exact ⟨_, (b_cons (s_if (t_cmp c_is (j_var 0) j_non) (b_one (s_ret (j_f (f_lst (a_cons (j_glob T.g_NOTHING) a_nil))))) b_nil) (b_cons (s_asgG (g_tup (K := K) (gs_cons 1 nd (gs_cons 2 nd gs_nil))) (j_var 0)) (b_one (s_ret (j_add (K := K) (j_add (K := K) (j_call (K := K) C_atom_words hr (a_cons (j_var 1) a_nil)) (j_f (f_lst (a_cons (j_glob T.g_SLASH) a_nil)))) (j_call (K := K) C_atom_words hr (a_cons (j_var 2) a_nil)))))))⟩

abbrev s_row_text : Stmt := topS 29
abbrev N_row_text : List Str := ["row", "kind", "first", "second"]
theorem sc_row_text : FnScope N_row_text ["row"] (defScope s_row_text) := ⟨rfl, rfl, rfl, by decide +kernel, rfl, by decide +kernel, by decide +kernel⟩
def m_row_text : MS := (mSeq (mAsgG (gT [1, 2, 3]) (mVar 0)) (mRet (mMeth joinD (mC (.str " ")) (mCons (mOp addD (mOp addD (mOp addD (mOp addD (mCall F_kind_words (mCons (mVar 1) mNil)) (mLst (few (mCons (mC (.str ";")) mNil)))) (mCall F_waiting_words (mCons (mVar 2) mNil))) (mLst (few (mCons (mC (.str ";")) mNil)))) (mCall F_waiting_words (mCons (mVar 3) mNil))) mNil))))
def F_row_text : List D → Option D := runF N_row_text 1 (m_row_text)
theorem fn_row_text (T : Tx K mg) {f : Addr} {fd : FuncData} (F : Fun K "row_text" "row_text" s_row_text f fd) (hb : Binds K fd ["row"] []) (hg : mg "row_text" = some (.ref f)) {b_kind_words : Addr} (C_kind_words : FnD P w K mg base b_kind_words "kind_words" 3 1 F_kind_words) {b_waiting_words : Addr} (C_waiting_words : FnD P w K mg base b_waiting_words "waiting_words" 3 1 F_waiting_words) :
    FnD P w K mg base f "row_text" 4 1 (F_row_text) := by
  refine fnD_of (m := m_row_text) F sc_row_text hb hg rfl (fun cdv A0 outer s H E hr => ?_)
  have nd : N_row_text.Nodup := sc_row_text.nd
  exact ⟨_, (b_cons (s_asgG (g_tup (K := K) (gs_cons 1 nd (gs_cons 2 nd (gs_cons 3 nd gs_nil)))) (j_var 0)) (b_one (s_ret (j_bm (K := K) (m_join (K := K)) j_str (a_cons (j_add (K := K) (j_add (K := K) (j_add (K := K) (j_add (K := K) (j_call (K := K) C_kind_words hr (a_cons (j_var 1) a_nil)) (j_f (f_lst (a_cons (j_glob T.g_PARTED) a_nil)))) (j_call (K := K) C_waiting_words hr (a_cons (j_var 2) a_nil))) (j_f (f_lst (a_cons (j_glob T.g_PARTED) a_nil)))) (j_call (K := K) C_waiting_words hr (a_cons (j_var 3) a_nil))) a_nil)))))⟩

abbrev s_parts_at : Stmt := topS 30
abbrev N_parts_at : List Str := ["words", "sign", "found", "word"]
theorem sc_parts_at : FnScope N_parts_at ["words", "sign"] (defScope s_parts_at) := ⟨rfl, rfl, rfl, by decide +kernel, rfl, by decide +kernel, by decide +kernel⟩
/-- the lists of words between the words that are a sign -/
def partsGo (s : Str) (init : List (List Str)) (last : List Str) : List Str → List (List Str)
  | [] => init ++ [last]
  | z :: r => if z = s then partsGo s (init ++ [last]) [] r else partsGo s init (last ++ [z]) r
def partsD (ps : List (List Str)) : D := .lst (ps.map fun p => .lst (p.map .str))
def m_parts_at : MS := fun ρ => match ρ with
  | [.pu (.lst ds), .pu (.val (.str s)), _, _] => (strsD ds).bind fun zs => if zs.length ≤ 10000000 then some (.rt (partsD (partsGo s [] [] zs))) else none
  | _ => none
def F_parts_at : List D → Option D := runF N_parts_at 2 m_parts_at
def PL (H0 H : Hp) : List Addr → List (List Str) → Prop := Paired fun b p => H b = some (.lst (p.map V.str)) ∧ H0 b = none
theorem PL.mono {H0 H H' : Hp} {bs : List Addr} {ps : List (List Str)} (h : PL H0 H bs ps) (e : ∀ b ∈ bs, H' b = H b) : PL H0 H' bs ps := by
  unfold PL at h ⊢
  induction h with
  | nil => exact .nil
  | @cons b p bs ps r t ih => exact .cons ⟨(e b List.mem_cons_self).trans r.1, r.2⟩ (ih fun c hc => e c (List.mem_cons_of_mem _ hc))
theorem PL.snoc {H0 H : Hp} {bs : List Addr} {ps : List (List Str)} {b : Addr} {p : List Str} (h : PL H0 H bs ps) (h1 : H b = some (.lst (p.map V.str))) (h2 : H0 b = none) : PL H0 H (bs ++ [b]) (ps ++ [p]) := Paired.snoc h ⟨h1, h2⟩
theorem PL.rps {K : PySem.W.Frag} {G H0 H : Hp} (e : ∀ b, H0 b = none → G b = H b) {bs : List Addr} {ps : List (List Str)} (h : PL H0 H bs ps) : Rps K G (bs.map V.ref) (ps.map fun p => D.lst (p.map .str)) := by
  unfold PL at h
  induction h with
  | nil => exact .nil
  | @cons b p bs ps r t ih => exact .cons (.lst (.inl (.inl ((e b r.2).trans r.1))) (rps_strs p)) ih
theorem strsD_of : ∀ {ds : List D} {zs : List Str}, strsD ds = some zs → ds = zs.map D.str := fun {ds zs} h => by
  have := strsD_strs h
  rw [this, List.map_map]
  rfl
structure PInv (H0 : Hp) (s : Str) (zs : List Str) (w x : V) (i : Nat) (σ : L2.St) (H : Hp) : Prop where
  i : ∃ (a b : Addr) (bs : List Addr) (init : List (List Str)) (last : List Str) (y : Option V), σ = [some w, some x, some (.ref a), y] ∧ H a = some (.lst ((bs ++ [b]).map V.ref)) ∧ H0 a = none ∧ PL H0 H bs init ∧ H b = some (.lst (last.map V.str)) ∧ H0 b = none ∧ b ≠ a ∧
    (∀ c ∈ bs, c ≠ a ∧ c ≠ b) ∧ Ex H0 H ∧ partsGo s init last (zs.drop i) = partsGo s [] [] zs ∧ init.length ≤ i ∧ last.length ≤ i
theorem sm_parts {K : PySem.W.Frag} {W : WX} : SM K W (tSeq (tAsg (tLst (tCons (tLst tNil) tNil)) (gName 2)) (tSeq (tFor (iList K (tVar 0)) (gName 3) (tIfS (tTest (tOp rEq (tVar 3) (tVar 1)))
      (tDrop (tBM K "list" rAppend (tVar 2) (tCons (tLst tNil) tNil))) (tDrop (tBM K "list" rAppend (tOp (rIxL K) (tVar 2) (tUn (rU fun i => .int (-i)) (tC (.int 1)))) (tCons (tVar 3) tNil))))) (tRet (tVar 2)))) m_parts_at := fun ρ o h G0 H0 G H σ E c p => by
  unfold m_parts_at at h
  split at h
  · rename_i ds s e2 e3
    obtain ⟨zs, hz, h⟩ := Option.bind_eq_some_iff.mp h
    split at h
    · rename_i hlen
      cases h
      obtain ⟨w, g0, rw'⟩ := c.slot 0 _ rfl
      obtain ⟨x, g1, rx⟩ := c.slot 1 _ rfl
      cases rp_val rx
      obtain ⟨pw, vs, rfl, sq, rs⟩ := rp_lst rw'
      rw [strsD_strs hz] at rs
      have evs := Rps.of_vals rs
      subst evs
      have eσ : ∃ y2 y3, σ = [some (.ref pw), some (.str s), y2, y3] := by
        have l := c.len
        match σ, l, g0, g1 with
        | [a, b, c, d], _, g0, g1 =>
          simp only [List.getElem?_cons_zero, List.getElem?_cons_succ, Option.some.injEq] at g0 g1
          exact ⟨c, d, by rw [g0, g1]⟩
      obtain ⟨y2, y3, rfl⟩ := eσ
      clear g0 g1
      have sqH : SqL K H pw (zs.map V.str) := ex_l c.sub sq
      -- found = [[]]
      refine ⟨by rw [sizeLine_eq]; simp, fun b hb => ⟨by rw [sizeLine_eq]; simp, fun a ha => ?_⟩⟩
      have nab : a ≠ b := fun z => by
        subst z
        rw [upd_same] at ha
        cases ha
      have ha' : H a = none := by rw [upd_ne nab] at ha; exact ha
      have ex1 : Ex H (upd (upd H b (.lst [])) a (.lst [.ref b])) := (Ex.new hb).trans (Ex.new ha)
      -- the loop
      refine ⟨_, rfl, pw, rfl, ⟨_, ex_l ex1 sqH⟩, for_list (xs := zs.map V.str) (fun i σ' H' => PInv H s zs (.ref pw) (.str s) i σ' H') ?_ ?_ ?_ ?_⟩
      · refine ⟨a, b, [], [], [], y3, rfl, by rw [upd_same]; rfl, ha', .nil, ?_, hb, Ne.symm nab, (fun _ h => absurd h (by simp)), ex1, by rw [List.drop_zero], Nat.le_refl _, Nat.le_refl _⟩
        rw [upd_ne (Ne.symm nab), upd_same]
        rfl
      · rintro i σ' H' _ ⟨_, _, _, _, _, _, _, _, _, _, _, _, _, _, ex, _⟩
        exact ex_l ex sqH
      · rintro i z σ' H' hi ⟨a, b, bs, init, last, y, rfl, h1, h2, h3, h4, h5, h6, h7, ex, h8, h9, h10⟩
        rw [List.getElem?_map] at hi
        obtain ⟨z', hz', rfl⟩ := Option.map_eq_some_iff.mp hi
        have hdrop : zs.drop i = z' :: zs.drop (i + 1) := by
          obtain ⟨h1, h2⟩ := List.getElem?_eq_some_iff.mp hz'
          rw [List.drop_eq_getElem_cons h1, h2]
        obtain ⟨hil, _⟩ := List.getElem?_eq_some_iff.mp hz'
        have hbl : bs.length = init.length := Paired.length h3
        rw [hdrop] at h8
        refine ⟨_, rfl, _, rfl, rfl, _, rfl, ?_⟩
        by_cases e : z' = s
        · subst e
          rw [decide_eq_true rfl]
          refine iteT ⟨_, rfl, .inl ⟨rfl, _, .inl (.inl h1)⟩, by rw [sizeLine_eq]; simp, fun q hq => ?_⟩
          have nqa : q ≠ a := fun z => by subst z; rw [h1] at hq; cases hq
          have nqb : q ≠ b := fun z => by subst z; rw [h4] at hq; cases hq
          have nqs : ∀ c ∈ bs, c ≠ q := fun c hc z => by
            subst z
            have : ∀ {bs : List Addr} {ps : List (List Str)}, PL H H' bs ps → c ∈ bs → H' c ≠ none := fun {bs ps} r hc => by
              unfold PL at r
              induction r with
              | nil => exact absurd hc (by simp)
              | @cons b p bs ps r t ih =>
                rcases List.mem_cons.mp hc with e | hc
                · subst e; rw [r.1]; exact Option.some_ne_none _
                · exact ih hc
            exact this h3 hc hq
          have hq0 : H q = none := fresh_back ex hq
          refine ⟨a, _, .ref q, rfl, rfl, by rw [upd_ne (Ne.symm nqa)]; exact h1, ?_, ?_⟩
          · rw [sizeLine_eq, List.length_map, List.length_append, List.length_singleton]
            omega
          · refine ⟨a, q, bs ++ [b], init ++ [last], [], some (.str z'), rfl, by rw [upd_same, List.map_append (l₁ := bs ++ [b])]; rfl, h2, ?_, ?_, hq0, nqa, fun c hc => ?_, ?_, ?_, by simp; omega, Nat.zero_le _⟩
            · have m1 : PL H (upd (upd H' q (.lst [])) a (.lst (((bs ++ [b]).map V.ref) ++ [.ref q]))) bs init := h3.mono fun c hc => by
                rw [upd_ne (h7 c hc).1, upd_ne (nqs c hc)]
              exact m1.snoc (by rw [upd_ne h6, upd_ne (Ne.symm nqb)]; exact h4) h5
            · rw [upd_ne nqa, upd_same]
              rfl
            · rcases List.mem_append.mp hc with hc | hc
              · exact ⟨(h7 c hc).1, nqs c hc⟩
              · rw [List.mem_singleton] at hc
                subst hc
                exact ⟨h6, Ne.symm nqb⟩
            · exact Ex.mut (ex.trans (Ex.new hq)) h2
            · have : partsGo z' init last (z' :: zs.drop (i + 1)) = partsGo z' (init ++ [last]) [] (zs.drop (i + 1)) := by
                show (if z' = z' then _ else _) = _
                rw [if_pos rfl]
              rw [← this]
              exact h8
        · rw [decide_eq_false (fun z => e (V.str.inj z))]
          refine iteF ⟨_, rfl, 1, rfl, a, _, -1, .ref b, rfl, rfl, .inl (.inl h1), ?_, .inl ⟨rfl, _, .inl (.inl h4)⟩, _, rfl, b, _, .str z', rfl, rfl, h4, ?_, ?_⟩
          · rw [List.map_append]
            exact atI_last _ _
          · rw [sizeLine_eq, List.length_map]
            omega
          · refine ⟨a, b, bs, init, last ++ [z'], some (.str z'), rfl, by rw [upd_ne (Ne.symm h6)]; exact h1, h2, h3.mono fun c hc => by rw [upd_ne (h7 c hc).2], by rw [upd_same, List.map_append]; rfl, h5, h6, h7, Ex.mut ex h5, ?_, by omega, by simp; omega⟩
            have : partsGo s init last (z' :: zs.drop (i + 1)) = partsGo s init (last ++ [z']) (zs.drop (i + 1)) := by
              show (if z' = s then _ else _) = _
              rw [if_neg e]
            rw [← this]
            exact h8
      · rintro σ' H' ⟨a, b, bs, init, last, y, rfl, h1, h2, h3, h4, h5, h6, h7, ex, h8, _, _⟩
        rw [List.length_map, List.drop_length] at h8
        have h8' : init ++ [last] = partsGo s [] [] zs := h8
        refine ⟨_, rfl, p (.ref a) (fun x => if H x = none then H' x else G x) H' ?_ ?_⟩
        · have w0 := c.wd0
          refine ⟨fun x u q => ?_, w0.h.trans ex, fun x u q => ?_, fun x hx gx => ?_⟩
          · have q1 := w0.g x u q
            have q2 := c.sub x u q1
            show (if H x = none then H' x else G x) = _
            rw [if_neg (by rw [q2]; exact Option.some_ne_none _)]
            exact q1
          · have q' : (if H x = none then H' x else G x) = some u := q
            by_cases hx : H x = none
            · rw [if_pos hx] at q'
              exact q'
            · rw [if_neg hx] at q'
              exact ex x u (c.sub x u q')
          · have : H x ≠ none := fun z => hx (by
              cases q : H0 x with
              | none => rfl
              | some o => rw [w0.h x o q] at z; cases z)
            show (if H x = none then H' x else G x) = none
            rw [if_neg this]
            exact w0.c x hx gx
        · rw [← h8']
          have e : ∀ b, H b = none → (if H b = none then H' b else G b) = H' b := fun b hb => if_pos hb
          have r := (h3.snoc h4 h5).rps (K := K) (G := fun x => if H x = none then H' x else G x) e
          exact .lst (.inl (.inl ((e a h2).trans h1))) r
    · cases h
  · cases h
theorem fn_parts_at (T : Tx K mg) {f : Addr} {fd : FuncData} (F : Fun K "parts_at" "parts_at" s_parts_at f fd) (hb : Binds K fd ["words", "sign"] []) (hg : mg "parts_at" = some (.ref f)) :
    FnD P w K mg base f "parts_at" 2 2 (F_parts_at) := by
  refine fnD_of (m := m_parts_at) F sc_parts_at hb hg rfl (fun cdv A0 outer s H E hr => ?_)
  have nd : N_parts_at.Nodup := sc_parts_at.nd
  exact ⟨_, pss_cons (ps_set (i := 2) nd rfl (.inl rfl) (pe_lst (pa_cons (pe_lst pa_nil) pa_nil))) (pss_cons (ps_for PassesOwn.never rfl (pi_list (pv 0)) (pg_name (i := 3) nd rfl (.inl rfl))
    (pss_one (ps_if (pt_cmpR op_eq (pv 3) (pv 1) (nomark _)) (pss_one (ps_expr (pe_bm PySem.F.plainAttrs_list PySem.F.slot_list_append PySem.F.type_list_append mt_append (pv 2) (pa_cons (pe_lst pa_nil) pa_nil))))
      (pss_one (ps_expr (pe_bm PySem.F.plainAttrs_list PySem.F.slot_list_append PySem.F.type_list_append mt_append (pe_ix ix_list (pv 2) (pe_un un_neg pe_int) (fun _ _ => rfl)) (pa_cons (pv 3) pa_nil))))))) (pss_one (ps_ret (pv 2)))), sm_parts⟩

abbrev s_atoms_told : Stmt := topS 31
abbrev N_atoms_told : List Str := ["words", "numbers"]
theorem sc_atoms_told : FnScope N_atoms_told ["words"] (defScope s_atoms_told) := ⟨rfl, rfl, rfl, by decide +kernel, rfl, by decide +kernel, by decide +kernel⟩
def m_atoms_told : MS := (mSeq (mAsg 1 (mCall F_numbers_of (mCons (mVar 0) mNil))) (mRet (mIf (mOr (mTest (mOp isND (mVar 1) (mC .non))) (mNot (mTru (mCall F_is_rising (mCons (mVar 1) mNil))))) (mC .non) (mCall tupleD (mCons (mVar 1) mNil)))))
def F_atoms_told : List D → Option D := runF N_atoms_told 1 (m_atoms_told)
theorem fn_atoms_told (T : Tx K mg) {f : Addr} {fd : FuncData} (F : Fun K "atoms_told" "atoms_told" s_atoms_told f fd) (hb : Binds K fd ["words"] []) (hg : mg "atoms_told" = some (.ref f)) {b_numbers_of : Addr} (C_numbers_of : FnD P w K mg base b_numbers_of "numbers_of" 3 1 F_numbers_of) {b_is_rising : Addr} (C_is_rising : FnD P w K mg base b_is_rising "is_rising" 2 1 F_is_rising) :
    FnD P w K mg base f "atoms_told" 4 1 (F_atoms_told) := by
  refine fnD_of (m := m_atoms_told) F sc_atoms_told hb hg rfl (fun cdv A0 outer s H E hr => ?_)
  have nd : N_atoms_told.Nodup := sc_atoms_told.nd
  exact ⟨_, (b_cons (s_set 1 nd (j_call (K := K) C_numbers_of hr (a_cons (j_var 0) a_nil))) (b_one (s_ret (j_if (t_w (w_or (t_cmp c_is (j_var 1) j_non) (w_or1 (t_not (t_tru (K := K) (j_call (K := K) C_is_rising hr (a_cons (j_var 1) a_nil))))))) j_non (j_ct (b_tuple (K := K)) T.b_tuple (a_cons (j_var 1) a_nil))))))⟩

abbrev s_kind_told : Stmt := topS 32
abbrev N_kind_told : List Str := ["words", "parts", "near", "below"]
theorem sc_kind_told : FnScope N_kind_told ["words"] (defScope s_kind_told) := ⟨rfl, rfl, rfl, by decide +kernel, rfl, by decide +kernel, by decide +kernel⟩
def m_kind_told : MS := (mSeq (mAsg 1 (mCall F_parts_at (mCons (mVar 0) (mCons (mC (.str ":")) mNil)))) (mSeq (mIfS (mOr (mTest (mOp neP (mCall lenD (mCons (mVar 1) mNil)) (mC (.int 3)))) (mOr (mTest (mOp neP (mCall lenD (mCons (mOp ixD (mVar 1) (mC (.int 0))) mNil)) (mC (.int 1)))) (mNot (mTru (mCall F_is_label (mCons (mOp ixD (mOp ixD (mVar 1) (mC (.int 0))) (mC (.int 0))) mNil)))))) (mRet (mC .non)) mNext) (mSeq (mAsg 2 (mCall F_atoms_told (mCons (mOp ixD (mVar 1) (mC (.int 1))) mNil))) (mSeq (mAsg 3 (mCall F_atoms_told (mCons (mOp ixD (mVar 1) (mC (.int 2))) mNil))) (mRet (mIf (mOr (mTest (mOp isND (mVar 2) (mC .non))) (mTest (mOp isND (mVar 3) (mC .non)))) (mC .non) (mTup (mCons (mOp ixD (mOp ixD (mVar 1) (mC (.int 0))) (mC (.int 0))) (mCons (mVar 2) (mCons (mVar 3) mNil))))))))))
def F_kind_told : List D → Option D := runF N_kind_told 1 (m_kind_told)
theorem fn_kind_told (T : Tx K mg) {f : Addr} {fd : FuncData} (F : Fun K "kind_told" "kind_told" s_kind_told f fd) (hb : Binds K fd ["words"] []) (hg : mg "kind_told" = some (.ref f)) {b_parts_at : Addr} (C_parts_at : FnD P w K mg base b_parts_at "parts_at" 2 2 F_parts_at) {b_is_label : Addr} (C_is_label : FnD P w K mg base b_is_label "is_label" 3 1 F_is_label) {b_atoms_told : Addr} (C_atoms_told : FnD P w K mg base b_atoms_told "atoms_told" 4 1 F_atoms_told) :
    FnD P w K mg base f "kind_told" 5 1 (F_kind_told) := by
  refine fnD_of (m := m_kind_told) F sc_kind_told hb hg rfl (fun cdv A0 outer s H E hr => ?_)
  have nd : N_kind_told.Nodup := sc_kind_told.nd
  exact ⟨_, (b_cons (s_set 1 nd (j_call (K := K) C_parts_at hr (a_cons (j_var 0) (a_cons (j_glob T.g_COLON) a_nil)))) (b_cons (s_if (t_w (w_or (t_cmp (c_neP hr (K := K)) (j_cb (b_len (K := K)) T.b_len (a_cons (j_var 1) a_nil)) j_int) (w_or (t_cmp (c_neP hr (K := K)) (j_cb (b_len (K := K)) T.b_len (a_cons (j_ix (K := K) (j_var 1) j_int) a_nil)) j_int) (w_or1 (t_not (t_tru (K := K) (j_call (K := K) C_is_label hr (a_cons (j_ix (K := K) (j_ix (K := K) (j_var 1) j_int) j_int) a_nil)))))))) (b_one (s_ret j_non)) b_nil) (b_cons (s_set 2 nd (j_call (K := K) C_atoms_told hr (a_cons (j_ix (K := K) (j_var 1) j_int) a_nil))) (b_cons (s_set 3 nd (j_call (K := K) C_atoms_told hr (a_cons (j_ix (K := K) (j_var 1) j_int) a_nil))) (b_one (s_ret (j_if (t_w (w_or (t_cmp c_is (j_var 2) j_non) (w_or1 (t_cmp c_is (j_var 3) j_non)))) j_non (j_tup (a_cons (j_ix (K := K) (j_ix (K := K) (j_var 1) j_int) j_int) (a_cons (j_var 2) (a_cons (j_var 3) a_nil)))))))))))⟩

abbrev s_waiting_told : Stmt := topS 33
abbrev N_waiting_told : List Str := ["words", "parts", "here", "below"]
theorem sc_waiting_told : FnScope N_waiting_told ["words"] (defScope s_waiting_told) := ⟨rfl, rfl, rfl, by decide +kernel, rfl, by decide +kernel, by decide +kernel⟩
def m_waiting_told : MS := (mSeq (mIfS (mTest (mOp eqP (mVar 0) (mLst (few (mCons (mC (.str "-")) mNil))))) (mRet (mLst (few (mCons (mC .non) mNil)))) mNext) (mSeq (mAsg 1 (mCall F_parts_at (mCons (mVar 0) (mCons (mC (.str "/")) mNil)))) (mSeq (mIfS (mTest (mOp neP (mCall lenD (mCons (mVar 1) mNil)) (mC (.int 2)))) (mRet (mC .non)) mNext) (mSeq (mAsg 2 (mCall F_atoms_told (mCons (mOp ixD (mVar 1) (mC (.int 0))) mNil))) (mSeq (mAsg 3 (mCall F_atoms_told (mCons (mOp ixD (mVar 1) (mC (.int 1))) mNil))) (mRet (mIf (mOr (mTest (mOp isND (mVar 2) (mC .non))) (mTest (mOp isND (mVar 3) (mC .non)))) (mC .non) (mLst (few (mCons (mTup (mCons (mVar 2) (mCons (mVar 3) mNil))) mNil))))))))))
def F_waiting_told : List D → Option D := runF N_waiting_told 1 (m_waiting_told)
theorem fn_waiting_told (T : Tx K mg) {f : Addr} {fd : FuncData} (F : Fun K "waiting_told" "waiting_told" s_waiting_told f fd) (hb : Binds K fd ["words"] []) (hg : mg "waiting_told" = some (.ref f)) {b_parts_at : Addr} (C_parts_at : FnD P w K mg base b_parts_at "parts_at" 2 2 F_parts_at) {b_atoms_told : Addr} (C_atoms_told : FnD P w K mg base b_atoms_told "atoms_told" 4 1 F_atoms_told) :
    FnD P w K mg base f "waiting_told" 5 1 (F_waiting_told) := by
  refine fnD_of (m := m_waiting_told) F sc_waiting_told hb hg rfl (fun cdv A0 outer s H E hr => ?_)
  have nd : N_waiting_told.Nodup := sc_waiting_told.nd
  exact ⟨_, (b_cons (s_if (t_cmp (c_eqP hr (K := K)) (j_var 0) (j_f (f_lst (a_cons (j_glob T.g_NOTHING) a_nil)))) (b_one (s_ret (j_f (f_lst (a_cons j_non a_nil))))) b_nil) (b_cons (s_set 1 nd (j_call (K := K) C_parts_at hr (a_cons (j_var 0) (a_cons (j_glob T.g_SLASH) a_nil)))) (b_cons (s_if (t_cmp (c_neP hr (K := K)) (j_cb (b_len (K := K)) T.b_len (a_cons (j_var 1) a_nil)) j_int) (b_one (s_ret j_non)) b_nil) (b_cons (s_set 2 nd (j_call (K := K) C_atoms_told hr (a_cons (j_ix (K := K) (j_var 1) j_int) a_nil))) (b_cons (s_set 3 nd (j_call (K := K) C_atoms_told hr (a_cons (j_ix (K := K) (j_var 1) j_int) a_nil))) (b_one (s_ret (j_if (t_w (w_or (t_cmp c_is (j_var 2) j_non) (w_or1 (t_cmp c_is (j_var 3) j_non)))) j_non (j_f (f_lst (a_cons (j_tup (a_cons (j_var 2) (a_cons (j_var 3) a_nil))) a_nil)))))))))))⟩

abbrev s_row_line : Stmt := topS 34
abbrev N_row_line : List Str := ["line", "parts", "kind", "first", "second"]
theorem sc_row_line : FnScope N_row_line ["line"] (defScope s_row_line) := ⟨rfl, rfl, rfl, by decide +kernel, rfl, by decide +kernel, by decide +kernel⟩
def m_row_line : MS := (mSeq (mAsg 1 (mCall F_parts_at (mCons (mCall F_words_of (mCons (mVar 0) mNil)) (mCons (mC (.str ";")) mNil)))) (mSeq (mIfS (mTest (mOp neP (mCall lenD (mCons (mVar 1) mNil)) (mC (.int 3)))) (mRet (mC .non)) mNext) (mSeq (mAsg 2 (mCall F_kind_told (mCons (mOp ixD (mVar 1) (mC (.int 0))) mNil))) (mSeq (mAsg 3 (mCall F_waiting_told (mCons (mOp ixD (mVar 1) (mC (.int 1))) mNil))) (mSeq (mAsg 4 (mCall F_waiting_told (mCons (mOp ixD (mVar 1) (mC (.int 2))) mNil))) (mRet (mIf (mOr (mTest (mOp isND (mVar 2) (mC .non))) (mOr (mTest (mOp isND (mVar 3) (mC .non))) (mTest (mOp isND (mVar 4) (mC .non))))) (mC .non) (mTup (mCons (mVar 2) (mCons (mOp ixD (mVar 3) (mC (.int 0))) (mCons (mOp ixD (mVar 4) (mC (.int 0))) mNil)))))))))))
def F_row_line : List D → Option D := runF N_row_line 1 (m_row_line)
theorem fn_row_line (T : Tx K mg) {f : Addr} {fd : FuncData} (F : Fun K "row_line" "row_line" s_row_line f fd) (hb : Binds K fd ["line"] []) (hg : mg "row_line" = some (.ref f)) {b_parts_at : Addr} (C_parts_at : FnD P w K mg base b_parts_at "parts_at" 2 2 F_parts_at) {b_words_of : Addr} (C_words_of : FnD P w K mg base b_words_of "words_of" 2 1 F_words_of) {b_kind_told : Addr} (C_kind_told : FnD P w K mg base b_kind_told "kind_told" 5 1 F_kind_told) {b_waiting_told : Addr} (C_waiting_told : FnD P w K mg base b_waiting_told "waiting_told" 5 1 F_waiting_told) :
    FnD P w K mg base f "row_line" 6 1 (F_row_line) := by
  refine fnD_of (m := m_row_line) F sc_row_line hb hg rfl (fun cdv A0 outer s H E hr => ?_)
  have nd : N_row_line.Nodup := sc_row_line.nd
  exact ⟨_, (b_cons (s_set 1 nd (j_call (K := K) C_parts_at hr (a_cons (j_call (K := K) C_words_of hr (a_cons (j_var 0) a_nil)) (a_cons (j_glob T.g_PARTED) a_nil)))) (b_cons (s_if (t_cmp (c_neP hr (K := K)) (j_cb (b_len (K := K)) T.b_len (a_cons (j_var 1) a_nil)) j_int) (b_one (s_ret j_non)) b_nil) (b_cons (s_set 2 nd (j_call (K := K) C_kind_told hr (a_cons (j_ix (K := K) (j_var 1) j_int) a_nil))) (b_cons (s_set 3 nd (j_call (K := K) C_waiting_told hr (a_cons (j_ix (K := K) (j_var 1) j_int) a_nil))) (b_cons (s_set 4 nd (j_call (K := K) C_waiting_told hr (a_cons (j_ix (K := K) (j_var 1) j_int) a_nil))) (b_one (s_ret (j_if (t_w (w_or (t_cmp c_is (j_var 2) j_non) (w_or (t_cmp c_is (j_var 3) j_non) (w_or1 (t_cmp c_is (j_var 4) j_non))))) j_non (j_tup (a_cons (j_var 2) (a_cons (j_ix (K := K) (j_var 3) j_int) (a_cons (j_ix (K := K) (j_var 4) j_int) a_nil))))))))))))⟩

abbrev s_waiting_key : Stmt := topS 35
abbrev N_waiting_key : List Str := ["waiting"]
theorem sc_waiting_key : FnScope N_waiting_key ["waiting"] (defScope s_waiting_key) := ⟨rfl, rfl, rfl, by decide +kernel, rfl, by decide +kernel, by decide +kernel⟩
def m_waiting_key : MS := (mRet (mIf (mTest (mOp isND (mVar 0) (mC .non))) (mTup (mCons (mC (.int 0)) (mCons (mTup mNil) (mCons (mTup mNil) mNil)))) (mOp addD (mTup (mCons (mC (.int 1)) mNil)) (mVar 0))))
def F_waiting_key : List D → Option D := runF N_waiting_key 1 (m_waiting_key)
theorem fn_waiting_key (T : Tx K mg) {f : Addr} {fd : FuncData} (F : Fun K "waiting_key" "waiting_key" s_waiting_key f fd) (hb : Binds K fd ["waiting"] []) (hg : mg "waiting_key" = some (.ref f)) :
    FnD P w K mg base f "waiting_key" 2 1 (F_waiting_key) := by
  refine fnD_of (m := m_waiting_key) F sc_waiting_key hb hg rfl (fun cdv A0 outer s H E hr => ?_)
  have nd : N_waiting_key.Nodup := sc_waiting_key.nd
  exact ⟨_, (b_one (s_ret (j_if (t_cmp c_is (j_var 0) j_non) (j_tup (a_cons j_int (a_cons (j_tup a_nil) (a_cons (j_tup a_nil) a_nil)))) (j_add (K := K) (j_tup (a_cons j_int a_nil)) (j_var 0)))))⟩

abbrev s_key_of_row : Stmt := topS 36
abbrev N_key_of_row : List Str := ["row", "kind", "first", "second"]
theorem sc_key_of_row : FnScope N_key_of_row ["row"] (defScope s_key_of_row) := ⟨rfl, rfl, rfl, by decide +kernel, rfl, by decide +kernel, by decide +kernel⟩
def m_key_of_row : MS := (mSeq (mAsgG (gT [1, 2, 3]) (mVar 0)) (mRet (mTup (mCons (mVar 1) (mCons (mCall F_waiting_key (mCons (mVar 2) mNil)) (mCons (mCall F_waiting_key (mCons (mVar 3) mNil)) mNil))))))
def F_key_of_row : List D → Option D := runF N_key_of_row 1 (m_key_of_row)
theorem fn_key_of_row (T : Tx K mg) {f : Addr} {fd : FuncData} (F : Fun K "key_of_row" "key_of_row" s_key_of_row f fd) (hb : Binds K fd ["row"] []) (hg : mg "key_of_row" = some (.ref f)) {b_waiting_key : Addr} (C_waiting_key : FnD P w K mg base b_waiting_key "waiting_key" 2 1 F_waiting_key) :
    FnD P w K mg base f "key_of_row" 3 1 (F_key_of_row) := by
  refine fnD_of (m := m_key_of_row) F sc_key_of_row hb hg rfl (fun cdv A0 outer s H E hr => ?_)
  have nd : N_key_of_row.Nodup := sc_key_of_row.nd
  exact ⟨_, (b_cons (s_asgG (g_tup (K := K) (gs_cons 1 nd (gs_cons 2 nd (gs_cons 3 nd gs_nil)))) (j_var 0)) (b_one (s_ret (j_tup (a_cons (j_var 1) (a_cons (j_call (K := K) C_waiting_key hr (a_cons (j_var 2) a_nil)) (a_cons (j_call (K := K) C_waiting_key hr (a_cons (j_var 3) a_nil)) a_nil)))))))⟩

abbrev s_check_ascending : Stmt := topS 38
abbrev N_check_ascending : List Str := ["keys", "before", "fallen"]
theorem sc_check_ascending : FnScope N_check_ascending ["keys", "before"] (defScope s_check_ascending) := ⟨rfl, rfl, rfl, by decide +kernel, rfl, by decide +kernel, by decide +kernel⟩
def m_check_ascending (c_BadLine : Addr) : MS := (mSeq (mAsg 2 (mCall F_first_fallen (mCons (mVar 0) mNil))) (mIfS (mTest (mOp notND (mVar 2) (mC .non))) (mRaise c_BadLine "line" (mOp addD (mVar 2) (mVar 1))) mNext))
def F_check_ascending (c_BadLine : Addr) : List D → Option Res := runX N_check_ascending 2 (m_check_ascending c_BadLine)
theorem fn_check_ascending (T : Tx K mg) {f : Addr} {fd : FuncData} (F : Fun K "check_ascending" "check_ascending" s_check_ascending f fd) (hb : Binds K fd ["keys", "before"] []) (hg : mg "check_ascending" = some (.ref f)) {c_BadLine : Addr} {b_first_fallen : Addr} (C_first_fallen : FnD P w K mg base b_first_fallen "first_fallen" 2 1 F_first_fallen) (E_BadLine : ErrT P w K mg base "BadLine" c_BadLine "line") :
    FnX P w K mg base f "check_ascending" 4 2 (F_check_ascending c_BadLine) := by
  refine fnX_of (m := m_check_ascending c_BadLine) F sc_check_ascending hb hg rfl (fun cdv A0 outer s H E hr => ?_)
  have nd : N_check_ascending.Nodup := sc_check_ascending.nd
  have tk : Takes (cxOf (L2.CX P w) P w K mg base N_check_ascending "check_ascending" (defScope s_check_ascending) f cdv A0 outer s H E) (WD E) := takes_of rfl rfl rfl rfl
  exact ⟨_, (b_cons (s_set 2 nd (j_call (K := K) C_first_fallen hr (a_cons (j_var 0) a_nil))) (b_one (s_if (t_cmp c_isnot (j_var 2) j_non) (b_one (s_raise E_BadLine hr tk (j_add (K := K) (j_var 2) (j_var 1)))) b_nil)))⟩

abbrev s_show_table : Stmt := topS 39
abbrev N_show_table : List Str := ["table", "row"]
theorem sc_show_table : FnScope N_show_table ["table"] (defScope s_show_table) := ⟨rfl, rfl, rfl, by decide +kernel, rfl, by decide +kernel, by decide +kernel⟩
def m_show_table : MS := (mRet (mMeth joinD (mC (.str "\n")) (mCons (mLst (mLc (mItems (mVar 0)) (gN 1) mYes (mCall F_row_text (mCons (mVar 1) mNil)) [1])) mNil)))
def F_show_table : List D → Option D := runF N_show_table 1 (m_show_table)
theorem fn_show_table (T : Tx K mg) {f : Addr} {fd : FuncData} (F : Fun K "show_table" "show_table" s_show_table f fd) (hb : Binds K fd ["table"] []) (hg : mg "show_table" = some (.ref f)) {b_row_text : Addr} (C_row_text : FnD P w K mg base b_row_text "row_text" 4 1 F_row_text) :
    FnD P w K mg base f "show_table" 5 1 (F_show_table) := by
  refine fnD_of (m := m_show_table) F sc_show_table hb hg rfl (fun cdv A0 outer s H E hr => ?_)
  have nd : N_show_table.Nodup := sc_show_table.nd
  exact ⟨_, (b_one (s_ret (j_bm (K := K) (m_join (K := K)) j_str (a_cons (j_f (f_lc (own := [("row", 1)]) nd (by exact (i_any (K := K) (j_var 0))) (by exact blkOk_by (N := N_show_table) (sc := defScope s_show_table) (by decide +kernel)) (by exact fun _ _ _ _ _ => (g_name 1 nd)) (by exact fun _ _ _ _ _ => ts_nil) (by exact fun _ _ _ _ _ => (j_call (K := K) C_row_text hr (a_cons (j_var 1) a_nil))))) a_nil))))⟩

abbrev s_read_table : Stmt := topS 40
abbrev N_read_table : List Str := ["text", "table", "row"]
theorem sc_read_table : FnScope N_read_table ["text"] (defScope s_read_table) := ⟨rfl, rfl, rfl, by decide +kernel, rfl, by decide +kernel, by decide +kernel⟩
def m_read_table (f_row_line : Addr) (Tb : Addr → Option (List D → Option D)) (c_BadLine : Addr) : MS := (mSeq (mAsgX 1 (mCallX (F_read_any Tb c_BadLine) (mCons (mVar 0) (mCons (mC (.ref f_row_line)) mNil)))) (mSeq (mDropX (mCallX (F_check_ascending c_BadLine) (mCons (mLst (mLc (mItems (mVar 1)) (gN 2) mYes (mCall F_key_of_row (mCons (mVar 2) mNil)) [2])) (mCons (mC (.int 0)) mNil)))) (mRet (mVar 1))))
def F_read_table (f_row_line : Addr) (Tb : Addr → Option (List D → Option D)) (c_BadLine : Addr) : List D → Option Res := runX N_read_table 1 (m_read_table f_row_line Tb c_BadLine)
theorem fn_read_table (T : Tx K mg) {f : Addr} {fd : FuncData} (F : Fun K "read_table" "read_table" s_read_table f fd) (hb : Binds K fd ["text"] []) (hg : mg "read_table" = some (.ref f)) {f_row_line : Addr} {Tb : Addr → Option (List D → Option D)} {c_BadLine : Addr} (g_row_line : mg "row_line" = some (.ref f_row_line)) {b_read_any : Addr} (C_read_any : FnX P w K mg base b_read_any "read_any" 11 2 (F_read_any Tb c_BadLine)) {b_key_of_row : Addr} (C_key_of_row : FnD P w K mg base b_key_of_row "key_of_row" 3 1 F_key_of_row) {b_check_ascending : Addr} (C_check_ascending : FnX P w K mg base b_check_ascending "check_ascending" 4 2 (F_check_ascending c_BadLine)) :
    FnX P w K mg base f "read_table" 12 1 (F_read_table f_row_line Tb c_BadLine) := by
  refine fnX_of (m := m_read_table f_row_line Tb c_BadLine) F sc_read_table hb hg rfl (fun cdv A0 outer s H E hr => ?_)
  have nd : N_read_table.Nodup := sc_read_table.nd
  have tk : Takes (cxOf (L2.CX P w) P w K mg base N_read_table "read_table" (defScope s_read_table) f cdv A0 outer s H E) (WD E) := takes_of rfl rfl rfl rfl
  exact ⟨_, (b_cons (s_setX 1 nd (x_call (K := K) C_read_any hr tk (a_cons (j_var 0) (a_cons (j_glob (v := .ref f_row_line) ⟨_, g_row_line, rfl⟩) a_nil)))) (b_cons (s_exprX (x_call (K := K) C_check_ascending hr tk (a_cons (j_f (f_lc (own := [("row", 2)]) nd (by exact (i_any (K := K) (j_var 1))) (by exact blkOk_by (N := N_read_table) (sc := defScope s_read_table) (by decide +kernel)) (by exact fun _ _ _ _ _ => (g_name 2 nd)) (by exact fun _ _ _ _ _ => ts_nil) (by exact fun _ _ _ _ _ => (j_call (K := K) C_key_of_row hr (a_cons (j_var 2) a_nil))))) (a_cons j_int a_nil)))) (b_one (s_ret (j_var 1)))))⟩

abbrev s__law_numbers : Stmt := topS 42
abbrev N__law_numbers : List Str := ["script", "at", "many", "cell", "numbers", "k", "mixed"]
theorem sc__law_numbers : FnScope N__law_numbers ["script", "at", "many"] (defScope s__law_numbers) := ⟨rfl, rfl, rfl, by decide +kernel, rfl, by decide +kernel, by decide +kernel⟩
def m__law_numbers : MS := (mSeq (mAsg 3 (mOp mulD (mC (.int 1000003)) (mOp addD (mVar 1) (mC (.int 1))))) (mSeq (mIfS (mTest (mOp ltP (mVar 1) (mCall lenD (mCons (mVar 0) mNil)))) (mAsg 3 (mCall intF (mCons (mOp ixD (mVar 0) (mVar 1)) mNil))) mNext) (mSeq (mIfS (mTest (mOp ltP (mVar 3) (mC (.int 0)))) (mAsg 3 (mOp subD (mC (.int 1)) (mOp mulD (mC (.int 2)) (mVar 3)))) mNext) (mSeq (mAsgO 4 (few mNil)) (mSeq (mFor (mRange1 (mCons (mVar 2) mNil)) (gN 5) (mIfS (mTest (mOp geP (mVar 3) (mOp powD (mC (.int 10)) (mC (.int 18))))) (mSeq (mApp 4 (mOp modD (mVar 3) (mC (.int 1009)))) (mAsg 3 (mOp fdivD (mVar 3) (mC (.int 1009))))) (mSeq (mAsg 6 (mOp modD (mOp addD (mOp addD (mOp mulD (mVar 3) (mC (.int 48271))) (mOp mulD (mOp addD (mVar 5) (mC (.int 1))) (mC (.int 69621)))) (mOp mulD (mVar 1) (mC (.int 4001)))) (mC (.int 2147483647)))) (mSeq (mAsg 6 (mOp modD (mOp addD (mOp mulD (mVar 6) (mVar 6)) (mOp mulD (mC (.int 16807)) (mOp addD (mVar 5) (mC (.int 3))))) (mC (.int 2147483629)))) (mApp 4 (mOp modD (mOp fdivD (mVar 6) (mC (.int 7))) (mC (.int 1009)))))))) (fun ρ => (mRet (mVar 4)) (frz 4 ρ)))))))
def F__law_numbers : List D → Option D := runF N__law_numbers 3 (m__law_numbers)
theorem fn__law_numbers (T : Tx K mg) {f : Addr} {fd : FuncData} (F : Fun K "_law_numbers" "_law_numbers" s__law_numbers f fd) (hb : Binds K fd ["script", "at", "many"] []) (hg : mg "_law_numbers" = some (.ref f)) :
    FnD P w K mg base f "_law_numbers" 2 3 (F__law_numbers) := by
  refine fnD_of (m := m__law_numbers) F sc__law_numbers hb hg rfl (fun cdv A0 outer s H E hr => ?_)
  have nd : N__law_numbers.Nodup := sc__law_numbers.nd
  exact ⟨_, (b_cons (s_set 3 nd (j_mul j_int (j_add (K := K) (j_var 1) j_int))) (b_cons (s_if (t_cmp (c_ltP hr (K := K)) (j_var 1) (j_cb (b_len (K := K)) T.b_len (a_cons (j_var 0) a_nil))) (b_one (s_set 3 nd (j_ct b_int T.b_int (a_cons (j_ix (K := K) (j_var 0) (j_var 1)) a_nil)))) b_nil) (b_cons (s_if (t_cmp (c_ltP hr (K := K)) (j_var 3) j_int) (b_one (s_set 3 nd (j_sub j_int (j_mul j_int (j_var 3))))) b_nil) (b_cons (s_setO 4 nd (f_lst a_nil)) (b_cons (s_for PassesOwn.never (i_range1 T.b_range (a_cons (j_var 2) a_nil)) (g_name 5 nd) (b_one (s_if (t_cmp (c_geP hr (K := K)) (j_var 3) (j_pow j_int j_int)) (b_cons (s_app (K := K) 4 (j_mod (j_var 3) j_int)) (b_one (s_set 3 nd (j_fdiv (j_var 3) j_int)))) (b_cons (s_set 6 nd (j_mod (j_add (K := K) (j_add (K := K) (j_mul (j_var 3) j_int) (j_mul (j_add (K := K) (j_var 5) j_int) j_int)) (j_mul (j_var 1) j_int)) j_int)) (b_cons (s_set 6 nd (j_mod (j_add (K := K) (j_mul (j_var 6) (j_var 6)) (j_mul j_int (j_add (K := K) (j_var 5) j_int))) j_int)) (b_one (s_app (K := K) 4 (j_mod (j_fdiv (j_var 6) j_int) j_int)))))))) (b_frz 4 (b_one (s_ret (j_var 4)))))))))⟩

abbrev s__law_words : Stmt := topS 43
abbrev N__law_words : List Str := ["script", "at", "count", "numbers", "found", "j", "word", "k", "spare"]
theorem sc__law_words : FnScope N__law_words ["script", "at", "count"] (defScope s__law_words) := ⟨rfl, rfl, rfl, by decide +kernel, rfl, by decide +kernel, by decide +kernel⟩
def m__law_words : MS := (mSeq (mAsg 3 (mCall F__law_numbers (mCons (mVar 0) (mCons (mVar 1) (mCons (mC (.int 60)) mNil))))) (mSeq (mAsgO 4 (few mNil)) (mSeq (mFor (mRange1 (mCons (mVar 2) mNil)) (gN 5) (mSeq (mAsg 6 (mC (.str ""))) (mSeq (mFor (mRange1 (mCons (mOp addD (mC (.int 1)) (mOp modD (mOp ixD (mVar 3) (mOp mulD (mC (.int 9)) (mVar 5))) (mOp ixD (mLst (few (mCons (mC (.int 3)) (mCons (mC (.int 8)) (mCons (mC (.int 1)) mNil))))) (mOp modD (mVar 5) (mC (.int 3)))))) mNil)) (gN 7) (mAsg 6 (mOp addD (mVar 6) (mOp ixD (mC (.str "abcdefghijklmnopqrstuvwxyz")) (mOp modD (mOp ixD (mVar 3) (mOp addD (mOp addD (mOp mulD (mC (.int 9)) (mVar 5)) (mC (.int 1))) (mVar 7))) (mC (.int 26))))))) (mSeq (mFor (mItems (mLst (few (mCons (mC (.str "qa")) (mCons (mC (.str "qb")) (mCons (mC (.str "qc")) (mCons (mC (.str "qd")) (mCons (mC (.str "qe")) (mCons (mC (.str "qf")) mNil))))))))) (gN 8) (mIfS (fun ρ => (mTest (mOp inP (mVar 6) (mOp addD (mVar 4) (mLst (few (mCons (mC (.str "and")) (mCons (mC (.str "or")) (mCons (mC (.str "not")) mNil)))))))) (frz 4 ρ)) (mAsg 6 (mVar 8)) mNext)) (mApp 4 (mVar 6)))))) (fun ρ => (mRet (mVar 4)) (frz 4 ρ)))))
def F__law_words : List D → Option D := runF N__law_words 3 (m__law_words)
theorem fn__law_words (T : Tx K mg) {f : Addr} {fd : FuncData} (F : Fun K "_law_words" "_law_words" s__law_words f fd) (hb : Binds K fd ["script", "at", "count"] []) (hg : mg "_law_words" = some (.ref f)) {b__law_numbers : Addr} (C__law_numbers : FnD P w K mg base b__law_numbers "_law_numbers" 2 3 F__law_numbers) :
    FnD P w K mg base f "_law_words" 3 3 (F__law_words) := by
  refine fnD_of (m := m__law_words) F sc__law_words hb hg rfl (fun cdv A0 outer s H E hr => ?_)
  have nd : N__law_words.Nodup := sc__law_words.nd
  exact ⟨_, (b_cons (s_set 3 nd (j_call (K := K) C__law_numbers hr (a_cons (j_var 0) (a_cons (j_var 1) (a_cons j_int a_nil))))) (b_cons (s_setO 4 nd (f_lst a_nil)) (b_cons (s_for PassesOwn.never (i_range1 T.b_range (a_cons (j_var 2) a_nil)) (g_name 5 nd) (b_cons (s_set 6 nd j_str) (b_cons (s_for PassesOwn.never (i_range1 T.b_range (a_cons (j_add (K := K) j_int (j_mod (j_ix (K := K) (j_var 3) (j_mul j_int (j_var 5))) (j_ix (K := K) (j_f (f_lst (a_cons j_int (a_cons j_int (a_cons j_int a_nil))))) (j_mod (j_var 5) j_int)))) a_nil)) (g_name 7 nd) (b_one (s_set 6 nd (j_add (K := K) (j_var 6) (j_ix (K := K) j_str (j_mod (j_ix (K := K) (j_var 3) (j_add (K := K) (j_add (K := K) (j_mul j_int (j_var 5)) j_int) (j_var 7))) j_int)))))) (b_cons (s_for PassesOwn.never (i_any (K := K) (j_f (f_lst (a_cons j_str (a_cons j_str (a_cons j_str (a_cons j_str (a_cons j_str (a_cons j_str a_nil))))))))) (g_name 8 nd) (b_one (s_if (t_brw 4 (t_cmp (c_inP hr (K := K)) (j_var 6) (j_add (K := K) (j_var 4) (j_f (f_lst (a_cons j_str (a_cons j_str (a_cons j_str a_nil)))))))) (b_one (s_set 6 nd (j_var 8))) b_nil))) (b_one (s_app (K := K) 4 (j_var 6))))))) (b_frz 4 (b_one (s_ret (j_var 4)))))))⟩

abbrev s__law_number : Stmt := topS 45
abbrev N__law_number : List Str := ["word", "sign"]
theorem sc__law_number : FnScope N__law_number ["word"] (defScope s__law_number) := ⟨rfl, rfl, rfl, by decide +kernel, rfl, by decide +kernel, by decide +kernel⟩
def m__law_number : MS := (mSeq (mIfS (mOr (mTest (mOp eqP (mVar 0) (mC (.str "")))) (mOr (mTest (mOp gtP (mCall lenD (mCons (mVar 0) mNil)) (mC (.int 6)))) (mOr (mTest (mOp neP (mLst (mLc (mItems (mVar 0)) (gN 1) (mTest (mOp ninP (mVar 1) (mC (.str "0123456789")))) (mVar 1) [1])) (mLst (few mNil)))) (mAnd (mTest (mOp gtP (mCall lenD (mCons (mVar 0) mNil)) (mC (.int 1)))) (mTest (mOp eqP (mOp ixD (mVar 0) (mC (.int 0))) (mC (.str "0")))))))) (mRet (mC .non)) mNext) (mRet (mCall intF (mCons (mVar 0) mNil))))
def F__law_number : List D → Option D := runF N__law_number 1 (m__law_number)
theorem fn__law_number (T : Tx K mg) {f : Addr} {fd : FuncData} (F : Fun K "_law_number" "_law_number" s__law_number f fd) (hb : Binds K fd ["word"] []) (hg : mg "_law_number" = some (.ref f)) :
    FnD P w K mg base f "_law_number" 2 1 (F__law_number) := by
  refine fnD_of (m := m__law_number) F sc__law_number hb hg rfl (fun cdv A0 outer s H E hr => ?_)
  have nd : N__law_number.Nodup := sc__law_number.nd
  exact ⟨_, (b_cons (s_if (t_w (w_or (t_cmp (c_eqP hr (K := K)) (j_var 0) j_str) (w_or (t_cmp (c_gtP hr (K := K)) (j_cb (b_len (K := K)) T.b_len (a_cons (j_var 0) a_nil)) j_int) (w_or (t_cmp (c_neP hr (K := K)) (j_f (f_lc (own := [("sign", 1)]) nd (by exact (i_any (K := K) (j_var 0))) (by exact blkOk_by (N := N__law_number) (sc := defScope s__law_number) (by decide +kernel)) (by exact fun _ _ _ _ _ => (g_name 1 nd)) (by exact fun _ _ _ _ _ => (ts_one (t_cmp (c_ninP hr (K := K)) (j_var 1) j_str))) (by exact fun _ _ _ _ _ => (j_var 1)))) (j_f (f_lst a_nil))) (w_or1 (t_w (w_and (t_cmp (c_gtP hr (K := K)) (j_cb (b_len (K := K)) T.b_len (a_cons (j_var 0) a_nil)) j_int) (w_and1 (t_cmp (c_eqP hr (K := K)) (j_ix (K := K) (j_var 0) j_int) j_str))))))))) (b_one (s_ret j_non)) b_nil) (b_one (s_ret (j_ct b_int T.b_int (a_cons (j_var 0) a_nil)))))⟩

abbrev s__law_rising : Stmt := topS 46
abbrev N__law_rising : List Str := ["keys", "k"]
theorem sc__law_rising : FnScope N__law_rising ["keys"] (defScope s__law_rising) := ⟨rfl, rfl, rfl, by decide +kernel, rfl, by decide +kernel, by decide +kernel⟩
def m__law_rising : MS := (mRet (mOp ixD (mOp addD (mLst (mLc (mRange2 (mCons (mC (.int 1)) (mCons (mCall lenD (mCons (mVar 0) mNil)) mNil))) (gN 1) (mTest (mOp leP (mOp ixD (mVar 0) (mVar 1)) (mOp ixD (mVar 0) (mOp subD (mVar 1) (mC (.int 1)))))) (mVar 1) [1])) (mLst (few (mCons (mC .non) mNil)))) (mC (.int 0))))
def F__law_rising : List D → Option D := runF N__law_rising 1 (m__law_rising)
theorem fn__law_rising (T : Tx K mg) {f : Addr} {fd : FuncData} (F : Fun K "_law_rising" "_law_rising" s__law_rising f fd) (hb : Binds K fd ["keys"] []) (hg : mg "_law_rising" = some (.ref f)) :
    FnD P w K mg base f "_law_rising" 2 1 (F__law_rising) := by
  refine fnD_of (m := m__law_rising) F sc__law_rising hb hg rfl (fun cdv A0 outer s H E hr => ?_)
  have nd : N__law_rising.Nodup := sc__law_rising.nd
  exact ⟨_, (b_one (s_ret (j_ix (K := K) (j_add (K := K) (j_f (f_lc (own := [("k", 1)]) nd (by exact (i_range2 T.b_range (a_cons j_int (a_cons (j_cb (b_len (K := K)) T.b_len (a_cons (j_var 0) a_nil)) a_nil)))) (by exact blkOk_by (N := N__law_rising) (sc := defScope s__law_rising) (by decide +kernel)) (by exact fun _ _ _ _ _ => (g_name 1 nd)) (by exact fun _ _ _ _ _ => (ts_one (t_cmp (c_leP hr (K := K)) (j_ix (K := K) (j_var 0) (j_var 1)) (j_ix (K := K) (j_var 0) (j_sub (j_var 1) j_int))))) (by exact fun _ _ _ _ _ => (j_var 1)))) (j_f (f_lst (a_cons j_non a_nil)))) j_int)))⟩

abbrev s__law_is_label : Stmt := topS 47
abbrev N__law_is_label : List Str := ["word", "sign"]
theorem sc__law_is_label : FnScope N__law_is_label ["word"] (defScope s__law_is_label) := ⟨rfl, rfl, rfl, by decide +kernel, rfl, by decide +kernel, by decide +kernel⟩
def m__law_is_label : MS := (mSeq (mIfS (mOr (mNot (mTest (mChain leP leP (mC (.int 1)) (mCall lenD (mCons (mVar 0) mNil)) (mC (.int 8))))) (mTest (mOp inP (mVar 0) (mTup (mCons (mC (.str "and")) (mCons (mC (.str "or")) (mCons (mC (.str "not")) mNil))))))) (mRet (mC (.bl false))) mNext) (mRet (mOp eqP (mLst (mLc (mItems (mVar 0)) (gN 1) (mTest (mOp ninP (mVar 1) (mC (.str "abcdefghijklmnopqrstuvwxyz")))) (mVar 1) [1])) (mLst (few mNil)))))
def F__law_is_label : List D → Option D := runF N__law_is_label 1 (m__law_is_label)
theorem fn__law_is_label (T : Tx K mg) {f : Addr} {fd : FuncData} (F : Fun K "_law_is_label" "_law_is_label" s__law_is_label f fd) (hb : Binds K fd ["word"] []) (hg : mg "_law_is_label" = some (.ref f)) :
    FnD P w K mg base f "_law_is_label" 2 1 (F__law_is_label) := by
  refine fnD_of (m := m__law_is_label) F sc__law_is_label hb hg rfl (fun cdv A0 outer s H E hr => ?_)
  have nd : N__law_is_label.Nodup := sc__law_is_label.nd
  exact ⟨_, (b_cons (s_if (t_w (w_or (t_not (t_chain (c_leP hr (K := K)) (c_leP hr (K := K)) j_int (j_cb (b_len (K := K)) T.b_len (a_cons (j_var 0) a_nil)) j_int)) (w_or1 (t_cmp (c_inP hr (K := K)) (j_var 0) (j_tup (a_cons j_str (a_cons j_str (a_cons j_str a_nil)))))))) (b_one (s_ret j_bl)) b_nil) (b_one (s_ret (j_cmp (c_eqP hr (K := K)) (j_f (f_lc (own := [("sign", 1)]) nd (by exact (i_any (K := K) (j_var 0))) (by exact blkOk_by (N := N__law_is_label) (sc := defScope s__law_is_label) (by decide +kernel)) (by exact fun _ _ _ _ _ => (g_name 1 nd)) (by exact fun _ _ _ _ _ => (ts_one (t_cmp (c_ninP hr (K := K)) (j_var 1) j_str))) (by exact fun _ _ _ _ _ => (j_var 1)))) (j_f (f_lst a_nil))))))⟩

abbrev s__law_atoms_told : Stmt := topS 48
abbrev N__law_atoms_told : List Str := ["words", "found", "word"]
theorem sc__law_atoms_told : FnScope N__law_atoms_told ["words"] (defScope s__law_atoms_told) := ⟨rfl, rfl, rfl, by decide +kernel, rfl, by decide +kernel, by decide +kernel⟩
def m__law_atoms_told : MS := (mSeq (mAsg 1 (mLst (mLc (mItems (mVar 0)) (gN 2) mYes (mCall F__law_number (mCons (mVar 2) mNil)) [2]))) (mSeq (mIfS (mOr (mTest (mOp inP (mC .non) (mVar 1))) (mTest (mOp notND (mCall F__law_rising (mCons (mVar 1) mNil)) (mC .non)))) (mRet (mC .non)) mNext) (mRet (mCall tupleD (mCons (mVar 1) mNil)))))
def F__law_atoms_told : List D → Option D := runF N__law_atoms_told 1 (m__law_atoms_told)
theorem fn__law_atoms_told (T : Tx K mg) {f : Addr} {fd : FuncData} (F : Fun K "_law_atoms_told" "_law_atoms_told" s__law_atoms_told f fd) (hb : Binds K fd ["words"] []) (hg : mg "_law_atoms_told" = some (.ref f)) {b__law_number : Addr} (C__law_number : FnD P w K mg base b__law_number "_law_number" 2 1 F__law_number) {b__law_rising : Addr} (C__law_rising : FnD P w K mg base b__law_rising "_law_rising" 2 1 F__law_rising) :
    FnD P w K mg base f "_law_atoms_told" 3 1 (F__law_atoms_told) := by
  refine fnD_of (m := m__law_atoms_told) F sc__law_atoms_told hb hg rfl (fun cdv A0 outer s H E hr => ?_)
  have nd : N__law_atoms_told.Nodup := sc__law_atoms_told.nd
  exact ⟨_, (b_cons (s_setLc (own := [("word", 2)]) 1 nd (by exact (i_any (K := K) (j_var 0))) (by exact blkOk_by (N := N__law_atoms_told) (sc := defScope s__law_atoms_told) (by decide +kernel)) (by exact fun _ _ _ _ _ => (g_name 2 nd)) (by exact fun _ _ _ _ _ => ts_nil) (by exact fun _ _ _ _ _ => (j_call (K := K) C__law_number hr (a_cons (j_var 2) a_nil)))) (b_cons (s_if (t_w (w_or (t_cmp (c_inP hr (K := K)) j_non (j_var 1)) (w_or1 (t_cmp c_isnot (j_call (K := K) C__law_rising hr (a_cons (j_var 1) a_nil)) j_non)))) (b_one (s_ret j_non)) b_nil) (b_one (s_ret (j_ct (b_tuple (K := K)) T.b_tuple (a_cons (j_var 1) a_nil))))))⟩

abbrev s__law_kind_told : Stmt := topS 49
abbrev N__law_kind_told : List Str := ["words", "marks", "near", "below", "k"]
theorem sc__law_kind_told : FnScope N__law_kind_told ["words"] (defScope s__law_kind_told) := ⟨rfl, rfl, rfl, by decide +kernel, rfl, by decide +kernel, by decide +kernel⟩
def m__law_kind_told : MS := (mSeq (mAsg 1 (mLst (mLc (mRange1 (mCons (mCall lenD (mCons (mVar 0) mNil)) mNil)) (gN 4) (mTest (mOp eqP (mOp ixD (mVar 0) (mVar 4)) (mC (.str ":")))) (mVar 4) [4]))) (mSeq (mIfS (mOr (mTest (mOp neP (mCall lenD (mCons (mVar 1) mNil)) (mC (.int 2)))) (mOr (mTest (mOp neP (mOp ixD (mVar 1) (mC (.int 0))) (mC (.int 1)))) (mNot (mTru (mCall F__law_is_label (mCons (mOp ixD (mVar 0) (mC (.int 0))) mNil)))))) (mRet (mC .non)) mNext) (mSeq (mPar 2 3 (mCons (mCall F__law_atoms_told (mCons (mSl slD (mVar 0) (mPart (mC (.int 2))) (mPart (mOp ixD (mVar 1) (mC (.int 1))))) mNil)) (mCons (mCall F__law_atoms_told (mCons (mSl slD (mVar 0) (mPart (mOp addD (mOp ixD (mVar 1) (mC (.int 1))) (mC (.int 1)))) mNoPart) mNil)) mNil))) (mSeq (mIfS (mOr (mTest (mOp isND (mVar 2) (mC .non))) (mTest (mOp isND (mVar 3) (mC .non)))) (mRet (mC .non)) mNext) (mRet (mTup (mCons (mOp ixD (mVar 0) (mC (.int 0))) (mCons (mVar 2) (mCons (mVar 3) mNil)))))))))
def F__law_kind_told : List D → Option D := runF N__law_kind_told 1 (m__law_kind_told)
theorem fn__law_kind_told (T : Tx K mg) {f : Addr} {fd : FuncData} (F : Fun K "_law_kind_told" "_law_kind_told" s__law_kind_told f fd) (hb : Binds K fd ["words"] []) (hg : mg "_law_kind_told" = some (.ref f)) {b__law_is_label : Addr} (C__law_is_label : FnD P w K mg base b__law_is_label "_law_is_label" 2 1 F__law_is_label) {b__law_atoms_told : Addr} (C__law_atoms_told : FnD P w K mg base b__law_atoms_told "_law_atoms_told" 3 1 F__law_atoms_told) :
    FnD P w K mg base f "_law_kind_told" 4 1 (F__law_kind_told) := by
  refine fnD_of (m := m__law_kind_told) F sc__law_kind_told hb hg rfl (fun cdv A0 outer s H E hr => ?_)
  have nd : N__law_kind_told.Nodup := sc__law_kind_told.nd
  exact ⟨_, (b_cons (s_setLc (own := [("k", 4)]) 1 nd (by exact (i_range1 T.b_range (a_cons (j_cb (b_len (K := K)) T.b_len (a_cons (j_var 0) a_nil)) a_nil))) (by exact blkOk_by (N := N__law_kind_told) (sc := defScope s__law_kind_told) (by decide +kernel)) (by exact fun _ _ _ _ _ => (g_name 4 nd)) (by exact fun _ _ _ _ _ => (ts_one (t_cmp (c_eqP hr (K := K)) (j_ix (K := K) (j_var 0) (j_var 4)) j_str))) (by exact fun _ _ _ _ _ => (j_var 4))) (b_cons (s_if (t_w (w_or (t_cmp (c_neP hr (K := K)) (j_cb (b_len (K := K)) T.b_len (a_cons (j_var 1) a_nil)) j_int) (w_or (t_cmp (c_neP hr (K := K)) (j_ix (K := K) (j_var 1) j_int) j_int) (w_or1 (t_not (t_tru (K := K) (j_call (K := K) C__law_is_label hr (a_cons (j_ix (K := K) (j_var 0) j_int) a_nil)))))))) (b_one (s_ret j_non)) b_nil) (b_cons (s_par 2 3 nd (a_cons (j_call (K := K) C__law_atoms_told hr (a_cons (j_sl (K := K) (j_var 0) (o_some j_int) (o_some (j_ix (K := K) (j_var 1) j_int))) a_nil)) (a_cons (j_call (K := K) C__law_atoms_told hr (a_cons (j_sl (K := K) (j_var 0) (o_some (j_add (K := K) (j_ix (K := K) (j_var 1) j_int) j_int)) o_none) a_nil)) a_nil))) (b_cons (s_if (t_w (w_or (t_cmp c_is (j_var 2) j_non) (w_or1 (t_cmp c_is (j_var 3) j_non)))) (b_one (s_ret j_non)) b_nil) (b_one (s_ret (j_tup (a_cons (j_ix (K := K) (j_var 0) j_int) (a_cons (j_var 2) (a_cons (j_var 3) a_nil))))))))))⟩

abbrev s__law_waiting_told : Stmt := topS 50
abbrev N__law_waiting_told : List Str := ["words", "k", "here", "below"]
theorem sc__law_waiting_told : FnScope N__law_waiting_told ["words"] (defScope s__law_waiting_told) := ⟨rfl, rfl, rfl, by decide +kernel, rfl, by decide +kernel, by decide +kernel⟩
def m__law_waiting_told : MS := (mSeq (mIfS (mTest (mOp eqP (mVar 0) (mLst (few (mCons (mC (.str "-")) mNil))))) (mRet (mLst (few (mCons (mC .non) mNil)))) mNext) (mSeq (mIfS (mTest (mOp neP (mMeth cntP (mVar 0) (mCons (mC (.str "/")) mNil)) (mC (.int 1)))) (mRet (mC .non)) mNext) (mSeq (mAsg 1 (mMeth idxP (mVar 0) (mCons (mC (.str "/")) mNil))) (mSeq (mPar 2 3 (mCons (mCall F__law_atoms_told (mCons (mSl slD (mVar 0) mNoPart (mPart (mVar 1))) mNil)) (mCons (mCall F__law_atoms_told (mCons (mSl slD (mVar 0) (mPart (mOp addD (mVar 1) (mC (.int 1)))) mNoPart) mNil)) mNil))) (mSeq (mIfS (mOr (mTest (mOp isND (mVar 2) (mC .non))) (mTest (mOp isND (mVar 3) (mC .non)))) (mRet (mC .non)) mNext) (mRet (mLst (few (mCons (mTup (mCons (mVar 2) (mCons (mVar 3) mNil))) mNil)))))))))
def F__law_waiting_told : List D → Option D := runF N__law_waiting_told 1 (m__law_waiting_told)
theorem fn__law_waiting_told (T : Tx K mg) {f : Addr} {fd : FuncData} (F : Fun K "_law_waiting_told" "_law_waiting_told" s__law_waiting_told f fd) (hb : Binds K fd ["words"] []) (hg : mg "_law_waiting_told" = some (.ref f)) {b__law_atoms_told : Addr} (C__law_atoms_told : FnD P w K mg base b__law_atoms_told "_law_atoms_told" 3 1 F__law_atoms_told) :
    FnD P w K mg base f "_law_waiting_told" 4 1 (F__law_waiting_told) := by
  refine fnD_of (m := m__law_waiting_told) F sc__law_waiting_told hb hg rfl (fun cdv A0 outer s H E hr => ?_)
  have nd : N__law_waiting_told.Nodup := sc__law_waiting_told.nd
  exact ⟨_, (b_cons (s_if (t_cmp (c_eqP hr (K := K)) (j_var 0) (j_f (f_lst (a_cons j_str a_nil)))) (b_one (s_ret (j_f (f_lst (a_cons j_non a_nil))))) b_nil) (b_cons (s_if (t_cmp (c_neP hr (K := K)) (j_bm (K := K) (m_count hr (K := K)) (j_var 0) (a_cons j_str a_nil)) j_int) (b_one (s_ret j_non)) b_nil) (b_cons (s_set 1 nd (j_bm (K := K) (m_index hr (K := K)) (j_var 0) (a_cons j_str a_nil))) (b_cons (s_par 2 3 nd (a_cons (j_call (K := K) C__law_atoms_told hr (a_cons (j_sl (K := K) (j_var 0) o_none (o_some (j_var 1))) a_nil)) (a_cons (j_call (K := K) C__law_atoms_told hr (a_cons (j_sl (K := K) (j_var 0) (o_some (j_add (K := K) (j_var 1) j_int)) o_none) a_nil)) a_nil))) (b_cons (s_if (t_w (w_or (t_cmp c_is (j_var 2) j_non) (w_or1 (t_cmp c_is (j_var 3) j_non)))) (b_one (s_ret j_non)) b_nil) (b_one (s_ret (j_f (f_lst (a_cons (j_tup (a_cons (j_var 2) (a_cons (j_var 3) a_nil))) a_nil))))))))))⟩

abbrev s__law_row_told : Stmt := topS 51
abbrev N__law_row_told : List Str := ["line", "words", "marks", "kind", "first", "second", "k"]
theorem sc__law_row_told : FnScope N__law_row_told ["line"] (defScope s__law_row_told) := ⟨rfl, rfl, rfl, by decide +kernel, rfl, by decide +kernel, by decide +kernel⟩
def m__law_row_told : MS := (mSeq (mAsg 1 (mMeth splitD (mVar 0) (mCons (mC (.str " ")) mNil))) (mSeq (mAsg 2 (mLst (mLc (mRange1 (mCons (mCall lenD (mCons (mVar 1) mNil)) mNil)) (gN 6) (mTest (mOp eqP (mOp ixD (mVar 1) (mVar 6)) (mC (.str ";")))) (mVar 6) [6]))) (mSeq (mIfS (mTest (mOp neP (mCall lenD (mCons (mVar 2) mNil)) (mC (.int 2)))) (mRet (mC .non)) mNext) (mSeq (mAsg 3 (mCall F__law_kind_told (mCons (mSl slD (mVar 1) mNoPart (mPart (mOp ixD (mVar 2) (mC (.int 0))))) mNil))) (mSeq (mPar 4 5 (mCons (mCall F__law_waiting_told (mCons (mSl slD (mVar 1) (mPart (mOp addD (mOp ixD (mVar 2) (mC (.int 0))) (mC (.int 1)))) (mPart (mOp ixD (mVar 2) (mC (.int 1))))) mNil)) (mCons (mCall F__law_waiting_told (mCons (mSl slD (mVar 1) (mPart (mOp addD (mOp ixD (mVar 2) (mC (.int 1))) (mC (.int 1)))) mNoPart) mNil)) mNil))) (mSeq (mIfS (mOr (mTest (mOp isND (mVar 3) (mC .non))) (mOr (mTest (mOp isND (mVar 4) (mC .non))) (mTest (mOp isND (mVar 5) (mC .non))))) (mRet (mC .non)) mNext) (mRet (mTup (mCons (mVar 3) (mCons (mOp ixD (mVar 4) (mC (.int 0))) (mCons (mOp ixD (mVar 5) (mC (.int 0))) mNil)))))))))))
def F__law_row_told : List D → Option D := runF N__law_row_told 1 (m__law_row_told)
theorem fn__law_row_told (T : Tx K mg) {f : Addr} {fd : FuncData} (F : Fun K "_law_row_told" "_law_row_told" s__law_row_told f fd) (hb : Binds K fd ["line"] []) (hg : mg "_law_row_told" = some (.ref f)) {b__law_kind_told : Addr} (C__law_kind_told : FnD P w K mg base b__law_kind_told "_law_kind_told" 4 1 F__law_kind_told) {b__law_waiting_told : Addr} (C__law_waiting_told : FnD P w K mg base b__law_waiting_told "_law_waiting_told" 4 1 F__law_waiting_told) :
    FnD P w K mg base f "_law_row_told" 5 1 (F__law_row_told) := by
  refine fnD_of (m := m__law_row_told) F sc__law_row_told hb hg rfl (fun cdv A0 outer s H E hr => ?_)
  have nd : N__law_row_told.Nodup := sc__law_row_told.nd
  exact ⟨_, (b_cons (s_set 1 nd (j_bm (K := K) (m_split (K := K)) (j_var 0) (a_cons j_str a_nil))) (b_cons (s_setLc (own := [("k", 6)]) 2 nd (by exact (i_range1 T.b_range (a_cons (j_cb (b_len (K := K)) T.b_len (a_cons (j_var 1) a_nil)) a_nil))) (by exact blkOk_by (N := N__law_row_told) (sc := defScope s__law_row_told) (by decide +kernel)) (by exact fun _ _ _ _ _ => (g_name 6 nd)) (by exact fun _ _ _ _ _ => (ts_one (t_cmp (c_eqP hr (K := K)) (j_ix (K := K) (j_var 1) (j_var 6)) j_str))) (by exact fun _ _ _ _ _ => (j_var 6))) (b_cons (s_if (t_cmp (c_neP hr (K := K)) (j_cb (b_len (K := K)) T.b_len (a_cons (j_var 2) a_nil)) j_int) (b_one (s_ret j_non)) b_nil) (b_cons (s_set 3 nd (j_call (K := K) C__law_kind_told hr (a_cons (j_sl (K := K) (j_var 1) o_none (o_some (j_ix (K := K) (j_var 2) j_int))) a_nil))) (b_cons (s_par 4 5 nd (a_cons (j_call (K := K) C__law_waiting_told hr (a_cons (j_sl (K := K) (j_var 1) (o_some (j_add (K := K) (j_ix (K := K) (j_var 2) j_int) j_int)) (o_some (j_ix (K := K) (j_var 2) j_int))) a_nil)) (a_cons (j_call (K := K) C__law_waiting_told hr (a_cons (j_sl (K := K) (j_var 1) (o_some (j_add (K := K) (j_ix (K := K) (j_var 2) j_int) j_int)) o_none) a_nil)) a_nil))) (b_cons (s_if (t_w (w_or (t_cmp c_is (j_var 3) j_non) (w_or (t_cmp c_is (j_var 4) j_non) (w_or1 (t_cmp c_is (j_var 5) j_non))))) (b_one (s_ret j_non)) b_nil) (b_one (s_ret (j_tup (a_cons (j_var 3) (a_cons (j_ix (K := K) (j_var 4) j_int) (a_cons (j_ix (K := K) (j_var 5) j_int) a_nil))))))))))))⟩

abbrev s__law_kind_words : Stmt := topS 52
abbrev N__law_kind_words : List Str := ["kind", "atom"]
theorem sc__law_kind_words : FnScope N__law_kind_words ["kind"] (defScope s__law_kind_words) := ⟨rfl, rfl, rfl, by decide +kernel, rfl, by decide +kernel, by decide +kernel⟩
def m__law_kind_words : MS := (mRet (mOp addD (mOp addD (mOp addD (mLst (few (mCons (mOp ixD (mVar 0) (mC (.int 0))) (mCons (mC (.str ":")) mNil)))) (mLst (mLc (mItems (mOp ixD (mVar 0) (mC (.int 1)))) (gN 1) mYes (mCall strD (mCons (mVar 1) mNil)) [1]))) (mLst (few (mCons (mC (.str ":")) mNil)))) (mLst (mLc (mItems (mOp ixD (mVar 0) (mC (.int 2)))) (gN 1) mYes (mCall strD (mCons (mVar 1) mNil)) [1]))))
def F__law_kind_words : List D → Option D := runF N__law_kind_words 1 (m__law_kind_words)
theorem fn__law_kind_words (T : Tx K mg) {f : Addr} {fd : FuncData} (F : Fun K "_law_kind_words" "_law_kind_words" s__law_kind_words f fd) (hb : Binds K fd ["kind"] []) (hg : mg "_law_kind_words" = some (.ref f)) :
    FnD P w K mg base f "_law_kind_words" 2 1 (F__law_kind_words) := by
  refine fnD_of (m := m__law_kind_words) F sc__law_kind_words hb hg rfl (fun cdv A0 outer s H E hr => ?_)
  have nd : N__law_kind_words.Nodup := sc__law_kind_words.nd
  exact ⟨_, (b_one (s_ret (j_add (K := K) (j_add (K := K) (j_add (K := K) (j_f (f_lst (a_cons (j_ix (K := K) (j_var 0) j_int) (a_cons j_str a_nil)))) (j_f (f_lc (own := [("atom", 1)]) nd (by exact (i_any (K := K) (j_ix (K := K) (j_var 0) j_int))) (by exact blkOk_by (N := N__law_kind_words) (sc := defScope s__law_kind_words) (by decide +kernel)) (by exact fun _ _ _ _ _ => (g_name 1 nd)) (by exact fun _ _ _ _ _ => ts_nil) (by exact fun _ _ _ _ _ => (j_ct b_str T.b_str (a_cons (j_var 1) a_nil)))))) (j_f (f_lst (a_cons j_str a_nil)))) (j_f (f_lc (own := [("atom", 1)]) nd (by exact (i_any (K := K) (j_ix (K := K) (j_var 0) j_int))) (by exact blkOk_by (N := N__law_kind_words) (sc := defScope s__law_kind_words) (by decide +kernel)) (by exact fun _ _ _ _ _ => (g_name 1 nd)) (by exact fun _ _ _ _ _ => ts_nil) (by exact fun _ _ _ _ _ => (j_ct b_str T.b_str (a_cons (j_var 1) a_nil))))))))⟩

abbrev s__law_waiting_words : Stmt := topS 53
abbrev N__law_waiting_words : List Str := ["waiting", "atom"]
theorem sc__law_waiting_words : FnScope N__law_waiting_words ["waiting"] (defScope s__law_waiting_words) := ⟨rfl, rfl, rfl, by decide +kernel, rfl, by decide +kernel, by decide +kernel⟩
def m__law_waiting_words : MS := (mSeq (mIfS (mTest (mOp isND (mVar 0) (mC .non))) (mRet (mLst (few (mCons (mC (.str "-")) mNil)))) mNext) (mRet (mOp addD (mOp addD (mLst (mLc (mItems (mOp ixD (mVar 0) (mC (.int 0)))) (gN 1) mYes (mCall strD (mCons (mVar 1) mNil)) [1])) (mLst (few (mCons (mC (.str "/")) mNil)))) (mLst (mLc (mItems (mOp ixD (mVar 0) (mC (.int 1)))) (gN 1) mYes (mCall strD (mCons (mVar 1) mNil)) [1])))))
def F__law_waiting_words : List D → Option D := runF N__law_waiting_words 1 (m__law_waiting_words)
theorem fn__law_waiting_words (T : Tx K mg) {f : Addr} {fd : FuncData} (F : Fun K "_law_waiting_words" "_law_waiting_words" s__law_waiting_words f fd) (hb : Binds K fd ["waiting"] []) (hg : mg "_law_waiting_words" = some (.ref f)) :
    FnD P w K mg base f "_law_waiting_words" 2 1 (F__law_waiting_words) := by
  refine fnD_of (m := m__law_waiting_words) F sc__law_waiting_words hb hg rfl (fun cdv A0 outer s H E hr => ?_)
  have nd : N__law_waiting_words.Nodup := sc__law_waiting_words.nd
  exact ⟨_, (b_cons (s_if (t_cmp c_is (j_var 0) j_non) (b_one (s_ret (j_f (f_lst (a_cons j_str a_nil))))) b_nil) (b_one (s_ret (j_add (K := K) (j_add (K := K) (j_f (f_lc (own := [("atom", 1)]) nd (by exact (i_any (K := K) (j_ix (K := K) (j_var 0) j_int))) (by exact blkOk_by (N := N__law_waiting_words) (sc := defScope s__law_waiting_words) (by decide +kernel)) (by exact fun _ _ _ _ _ => (g_name 1 nd)) (by exact fun _ _ _ _ _ => ts_nil) (by exact fun _ _ _ _ _ => (j_ct b_str T.b_str (a_cons (j_var 1) a_nil))))) (j_f (f_lst (a_cons j_str a_nil)))) (j_f (f_lc (own := [("atom", 1)]) nd (by exact (i_any (K := K) (j_ix (K := K) (j_var 0) j_int))) (by exact blkOk_by (N := N__law_waiting_words) (sc := defScope s__law_waiting_words) (by decide +kernel)) (by exact fun _ _ _ _ _ => (g_name 1 nd)) (by exact fun _ _ _ _ _ => ts_nil) (by exact fun _ _ _ _ _ => (j_ct b_str T.b_str (a_cons (j_var 1) a_nil)))))))))⟩

abbrev s__law_row_key : Stmt := topS 55
abbrev N__law_row_key : List Str := ["row"]
theorem sc__law_row_key : FnScope N__law_row_key ["row"] (defScope s__law_row_key) := ⟨rfl, rfl, rfl, by decide +kernel, rfl, by decide +kernel, by decide +kernel⟩
def m__law_row_key : MS := (mRet (mTup (mCons (mOp ixD (mVar 0) (mC (.int 0))) (mCons (mOp notND (mOp ixD (mVar 0) (mC (.int 1))) (mC .non)) (mCons (mOrT (mOp ixD (mVar 0) (mC (.int 1))) (mTup mNil)) (mCons (mOp notND (mOp ixD (mVar 0) (mC (.int 2))) (mC .non)) (mCons (mOrT (mOp ixD (mVar 0) (mC (.int 2))) (mTup mNil)) mNil)))))))
def F__law_row_key : List D → Option D := runF N__law_row_key 1 (m__law_row_key)
theorem fn__law_row_key (T : Tx K mg) {f : Addr} {fd : FuncData} (F : Fun K "_law_row_key" "_law_row_key" s__law_row_key f fd) (hb : Binds K fd ["row"] []) (hg : mg "_law_row_key" = some (.ref f)) :
    FnD P w K mg base f "_law_row_key" 2 1 (F__law_row_key) := by
  refine fnD_of (m := m__law_row_key) F sc__law_row_key hb hg rfl (fun cdv A0 outer s H E hr => ?_)
  have nd : N__law_row_key.Nodup := sc__law_row_key.nd
  exact ⟨_, (b_one (s_ret (j_tup (a_cons (j_ix (K := K) (j_var 0) j_int) (a_cons (j_cmp c_isnot (j_ix (K := K) (j_var 0) j_int) j_non) (a_cons (j_orT (j_ix (K := K) (j_var 0) j_int) (j_one (j_tup a_nil)) (K := K)) (a_cons (j_cmp c_isnot (j_ix (K := K) (j_var 0) j_int) j_non) (a_cons (j_orT (j_ix (K := K) (j_var 0) j_int) (j_one (j_tup a_nil)) (K := K)) a_nil))))))))⟩

abbrev s__law_some_atoms : Stmt := topS 56
abbrev N__law_some_atoms : List Str := ["number", "most", "k"]
theorem sc__law_some_atoms : FnScope N__law_some_atoms ["number", "most"] (defScope s__law_some_atoms) := ⟨rfl, rfl, rfl, by decide +kernel, rfl, by decide +kernel, by decide +kernel⟩
def m__law_some_atoms : MS := (mRet (mCall tupleD (mCons (mLst (mLc (mRange1 (mCons (mVar 1) mNil)) (gN 2) (mTest (mOp eqP (mOp modD (mOp fdivD (mVar 0) (mOp ixD (mTup (mCons (mC (.int 1)) (mCons (mC (.int 2)) (mCons (mC (.int 4)) (mCons (mC (.int 8)) (mCons (mC (.int 16)) (mCons (mC (.int 32)) (mCons (mC (.int 64)) mNil)))))))) (mVar 2))) (mC (.int 2))) (mC (.int 1)))) (mOp mulD (mVar 2) (mVar 2)) [2])) mNil)))
def F__law_some_atoms : List D → Option D := runF N__law_some_atoms 2 (m__law_some_atoms)
theorem fn__law_some_atoms (T : Tx K mg) {f : Addr} {fd : FuncData} (F : Fun K "_law_some_atoms" "_law_some_atoms" s__law_some_atoms f fd) (hb : Binds K fd ["number", "most"] []) (hg : mg "_law_some_atoms" = some (.ref f)) :
    FnD P w K mg base f "_law_some_atoms" 2 2 (F__law_some_atoms) := by
  refine fnD_of (m := m__law_some_atoms) F sc__law_some_atoms hb hg rfl (fun cdv A0 outer s H E hr => ?_)
  have nd : N__law_some_atoms.Nodup := sc__law_some_atoms.nd
  exact ⟨_, (b_one (s_ret (j_ct (b_tuple (K := K)) T.b_tuple (a_cons (j_f (f_lc (own := [("k", 2)]) nd (by exact (i_range1 T.b_range (a_cons (j_var 1) a_nil))) (by exact blkOk_by (N := N__law_some_atoms) (sc := defScope s__law_some_atoms) (by decide +kernel)) (by exact fun _ _ _ _ _ => (g_name 2 nd)) (by exact fun _ _ _ _ _ => (ts_one (t_cmp (c_eqP hr (K := K)) (j_mod (j_fdiv (j_var 0) (j_ix (K := K) (j_tup (a_cons j_int (a_cons j_int (a_cons j_int (a_cons j_int (a_cons j_int (a_cons j_int (a_cons j_int a_nil)))))))) (j_var 2))) j_int) j_int))) (by exact fun _ _ _ _ _ => (j_mul (j_var 2) (j_var 2))))) a_nil))))⟩

abbrev s__law_some_rows : Stmt := topS 57
abbrev N__law_some_rows : List Str := ["script", "at", "numbers", "words", "rows", "k", "own", "kind", "first", "second", "row", "key"]
theorem sc__law_some_rows : FnScope N__law_some_rows ["script", "at"] (defScope s__law_some_rows) := ⟨rfl, rfl, rfl, by decide +kernel, rfl, by decide +kernel, by decide +kernel⟩
noncomputable def m__law_some_rows (P : Program) (w : World) : MS := (mSeq (mAsg 2 (mCall F__law_numbers (mCons (mVar 0) (mCons (mVar 1) (mCons (mC (.int 60)) mNil))))) (mSeq (mAsg 3 (mCall F__law_words (mCons (mVar 0) (mCons (mOp addD (mVar 1) (mC (.int 1))) (mCons (mC (.int 3)) mNil))))) (mSeq (mAsgD P w 4) (mSeq (mFor (mRange1 (mCons (mOp modD (mOp ixD (mVar 2) (mC (.int 0))) (mC (.int 7))) mNil)) (gN 5) (mSeq (mAsg 6 (mSl slD (mVar 2) (mPart (mOp addD (mC (.int 1)) (mOp mulD (mC (.int 8)) (mVar 5)))) (mPart (mOp addD (mC (.int 9)) (mOp mulD (mC (.int 8)) (mVar 5)))))) (mSeq (mAsg 7 (mTup (mCons (mOp ixD (mVar 3) (mOp modD (mOp ixD (mVar 6) (mC (.int 0))) (mC (.int 3)))) (mCons (mCall F__law_some_atoms (mCons (mOp ixD (mVar 6) (mC (.int 1))) (mCons (mC (.int 5)) mNil))) (mCons (mCall F__law_some_atoms (mCons (mOp ixD (mVar 6) (mC (.int 2))) (mCons (mC (.int 6)) mNil))) mNil))))) (mSeq (mPar 8 9 (mCons (mTup (mCons (mCall F__law_some_atoms (mCons (mOp ixD (mVar 6) (mC (.int 3))) (mCons (mC (.int 4)) mNil))) (mCons (mCall F__law_some_atoms (mCons (mOp ixD (mVar 6) (mC (.int 4))) (mCons (mC (.int 5)) mNil))) mNil))) (mCons (mTup (mCons (mCall F__law_some_atoms (mCons (mOp ixD (mVar 6) (mC (.int 5))) (mCons (mC (.int 5)) mNil))) (mCons (mCall F__law_some_atoms (mCons (mOp ixD (mVar 6) (mC (.int 6))) (mCons (mC (.int 3)) mNil))) mNil))) mNil))) (mSeq (mAsg 10 (mOp ixD (mLst (few (mCons (mTup (mCons (mVar 7) (mCons (mVar 8) (mCons (mVar 9) mNil)))) (mCons (mTup (mCons (mVar 7) (mCons (mC .non) (mCons (mC .non) mNil)))) (mCons (mTup (mCons (mVar 7) (mCons (mVar 8) (mCons (mC .non) mNil)))) (mCons (mTup (mCons (mVar 7) (mCons (mC .non) (mCons (mVar 9) mNil)))) mNil)))))) (mOp modD (mOp ixD (mVar 6) (mC (.int 7))) (mC (.int 4))))) (mDSet P w 4 (mCall F__law_row_key (mCons (mVar 10) mNil)) (mVar 10))))))) (mRet (mLst (mLc (mItems (mCall sortND (mCons (mDKeys P w 4) mNil))) (gN 11) mYes (mDGet P w 4 (mVar 11)) [11])))))))
noncomputable def F__law_some_rows (P : Program) (w : World) : List D → Option D := runF N__law_some_rows 2 (m__law_some_rows P w)
theorem fn__law_some_rows (T : Tx K mg) {f : Addr} {fd : FuncData} (F : Fun K "_law_some_rows" "_law_some_rows" s__law_some_rows f fd) (hb : Binds K fd ["script", "at"] []) (hg : mg "_law_some_rows" = some (.ref f)) {b__law_numbers : Addr} (C__law_numbers : FnD P w K mg base b__law_numbers "_law_numbers" 2 3 F__law_numbers) {b__law_words : Addr} (C__law_words : FnD P w K mg base b__law_words "_law_words" 3 3 F__law_words) {b__law_some_atoms : Addr} (C__law_some_atoms : FnD P w K mg base b__law_some_atoms "_law_some_atoms" 2 2 F__law_some_atoms) {b__law_row_key : Addr} (C__law_row_key : FnD P w K mg base b__law_row_key "_law_row_key" 2 1 F__law_row_key) :
    FnD P w K mg base f "_law_some_rows" 4 2 (F__law_some_rows P w) := by
  refine fnD_of (m := m__law_some_rows P w) F sc__law_some_rows hb hg rfl (fun cdv A0 outer s H E hr => ?_)
  have nd : N__law_some_rows.Nodup := sc__law_some_rows.nd
  exact ⟨_, (b_cons (s_set 2 nd (j_call (K := K) C__law_numbers hr (a_cons (j_var 0) (a_cons (j_var 1) (a_cons j_int a_nil))))) (b_cons (s_set 3 nd (j_call (K := K) C__law_words hr (a_cons (j_var 0) (a_cons (j_add (K := K) (j_var 1) j_int) (a_cons j_int a_nil))))) (b_cons (s_setD 4 nd) (b_cons (s_for PassesOwn.never (i_range1 T.b_range (a_cons (j_mod (j_ix (K := K) (j_var 2) j_int) j_int) a_nil)) (g_name 5 nd) (b_cons (s_set 6 nd (j_sl (K := K) (j_var 2) (o_some (j_add (K := K) j_int (j_mul j_int (j_var 5)))) (o_some (j_add (K := K) j_int (j_mul j_int (j_var 5)))))) (b_cons (s_set 7 nd (j_tup (a_cons (j_ix (K := K) (j_var 3) (j_mod (j_ix (K := K) (j_var 6) j_int) j_int)) (a_cons (j_call (K := K) C__law_some_atoms hr (a_cons (j_ix (K := K) (j_var 6) j_int) (a_cons j_int a_nil))) (a_cons (j_call (K := K) C__law_some_atoms hr (a_cons (j_ix (K := K) (j_var 6) j_int) (a_cons j_int a_nil))) a_nil))))) (b_cons (s_par 8 9 nd (a_cons (j_tup (a_cons (j_call (K := K) C__law_some_atoms hr (a_cons (j_ix (K := K) (j_var 6) j_int) (a_cons j_int a_nil))) (a_cons (j_call (K := K) C__law_some_atoms hr (a_cons (j_ix (K := K) (j_var 6) j_int) (a_cons j_int a_nil))) a_nil))) (a_cons (j_tup (a_cons (j_call (K := K) C__law_some_atoms hr (a_cons (j_ix (K := K) (j_var 6) j_int) (a_cons j_int a_nil))) (a_cons (j_call (K := K) C__law_some_atoms hr (a_cons (j_ix (K := K) (j_var 6) j_int) (a_cons j_int a_nil))) a_nil))) a_nil))) (b_cons (s_set 10 nd (j_ix (K := K) (j_f (f_lst (a_cons (j_tup (a_cons (j_var 7) (a_cons (j_var 8) (a_cons (j_var 9) a_nil)))) (a_cons (j_tup (a_cons (j_var 7) (a_cons j_non (a_cons j_non a_nil)))) (a_cons (j_tup (a_cons (j_var 7) (a_cons (j_var 8) (a_cons j_non a_nil)))) (a_cons (j_tup (a_cons (j_var 7) (a_cons j_non (a_cons (j_var 9) a_nil)))) a_nil)))))) (j_mod (j_ix (K := K) (j_var 6) j_int) j_int))) (b_one (s_dset 4 hr (j_var 10) (j_call (K := K) C__law_row_key hr (a_cons (j_var 10) a_nil)) (K := K)))))))) (b_one (s_ret (j_f (f_lc (own := [("key", 11)]) nd (by exact (i_any (K := K) (j_cb (b_sortN hr (K := K)) T.b_sorted (a_cons (j_dkeys 4 T.b_list) a_nil)))) (by exact blkOk_by (N := N__law_some_rows) (sc := defScope s__law_some_rows) (by decide +kernel)) (by exact fun _ _ _ _ _ => (g_name 11 nd)) (by exact fun _ _ _ _ _ => ts_nil) (by exact fun _ _ _ _ _ => (j_dget 4 hr (j_var 11) (K := K)))))))))))⟩

abbrev s__law_note : Stmt := topS 58
abbrev N__law_note : List Str := ["text", "e"]
theorem sc__law_note : FnScope N__law_note ["text"] (defScope s__law_note) := ⟨rfl, rfl, rfl, by decide +kernel, rfl, by decide +kernel, by decide +kernel⟩
def m__law_note (c_BadLine : Addr) (f_row_line : Addr) (Tb : Addr → Option (List D → Option D)) : MS := (mNote 1 c_BadLine "line" "bad" (mCallX (F_read_table f_row_line Tb c_BadLine) (mCons (mVar 0) mNil)))
def F__law_note (c_BadLine : Addr) (f_row_line : Addr) (Tb : Addr → Option (List D → Option D)) : List D → Option D := runF N__law_note 1 (m__law_note c_BadLine f_row_line Tb)
theorem fn__law_note (T : Tx K mg) {f : Addr} {fd : FuncData} (F : Fun K "_law_note" "_law_note" s__law_note f fd) (hb : Binds K fd ["text"] []) (hg : mg "_law_note" = some (.ref f)) {c_BadLine : Addr} {f_row_line : Addr} {Tb : Addr → Option (List D → Option D)} {b_read_table : Addr} (C_read_table : FnX P w K mg base b_read_table "read_table" 12 1 (F_read_table f_row_line Tb c_BadLine)) {c_BadText : Addr} (Z_BadLine : ErrF K mg "BadLine" c_BadLine "line") (g_BadText : mg "BadText" = some (.ref c_BadText)) (k_BadLine_BadText : PySem.W.kitOne K (.ref c_BadLine) (.ref c_BadText) = some false) :
    FnD P w K mg base f "_law_note" 13 1 (F__law_note c_BadLine f_row_line Tb) := by
  refine fnD_of (m := m__law_note c_BadLine f_row_line Tb) F sc__law_note hb hg rfl (fun cdv A0 outer s H E hr => ?_)
  have nd : N__law_note.Nodup := sc__law_note.nd
  exact ⟨_, (b_one (s_note (K := K) (C := c_BadLine) (C2 := c_BadText) (f := "line") (z1 := "mixed") (z2 := "bad") (i := 1) rfl rfl rfl nd rfl rfl ⟨rfl, by decide, .inl Z_BadLine.g⟩ takes0 (fun W pn xe tk => by exact (x_call (K := K) C_read_table hr tk (a_cons (j_var 0) a_nil))) (fun a oe cls d pn hz hf => by exact pss_cons (ps_if (pt_val (pe_callB (call_isX Z_BadLine.c hz hf) rfl T.b_isinstance (by decide +kernel) (by exact pa_cons (pv 1) (pa_cons (pe_glob rfl g_BadText rfl) pa_nil)))) (pss_one (ps_ret pe_str)) pss_nil) (pss_one (ps_ret (pe_tup (by exact pa_cons pe_str (pa_cons (pe_xf Z_BadLine.xf Z_BadLine.no hz hf (pv 1)) pa_nil)))))) Z_BadLine.exm k_BadLine_BadText))⟩

abbrev s__law_due : Stmt := topS 59
abbrev N__law_due : List Str := ["text", "found", "line", "row", "fallen"]
theorem sc__law_due : FnScope N__law_due ["text"] (defScope s__law_due) := ⟨rfl, rfl, rfl, by decide +kernel, rfl, by decide +kernel, by decide +kernel⟩
def m__law_due : MS := (mSeq (mIfS (mTest (mOp eqP (mVar 0) (mC (.str "")))) (mRet (mLst (few mNil))) mNext) (mSeq (mAsgO 1 (few mNil)) (mSeq (mFor (mItems (mMeth splitD (mVar 0) (mCons (mC (.str "\n")) mNil))) (gN 2) (mSeq (mAsg 3 (mCall F__law_row_told (mCons (mVar 2) mNil))) (mSeq (mIfS (mTest (mOp isND (mVar 3) (mC .non))) (fun ρ => (mRet (mTup (mCons (mC (.str "bad")) (mCons (mCall lenD (mCons (mVar 1) mNil)) mNil)))) (frz 1 ρ)) mNext) (mApp 1 (mVar 3))))) (fun ρ => (mSeq (mAsg 4 (mCall F__law_rising (mCons (mLst (mLc (mItems (mVar 1)) (gN 3) mYes (mCall F__law_row_key (mCons (mVar 3) mNil)) [3])) mNil))) (mSeq (mIfS (mTest (mOp notND (mVar 4) (mC .non))) (mRet (mTup (mCons (mC (.str "bad")) (mCons (mVar 4) mNil)))) mNext) (mRet (mVar 1)))) (frz 1 ρ)))))
def F__law_due : List D → Option D := runF N__law_due 1 (m__law_due)
theorem fn__law_due (T : Tx K mg) {f : Addr} {fd : FuncData} (F : Fun K "_law_due" "_law_due" s__law_due f fd) (hb : Binds K fd ["text"] []) (hg : mg "_law_due" = some (.ref f)) {b__law_row_told : Addr} (C__law_row_told : FnD P w K mg base b__law_row_told "_law_row_told" 5 1 F__law_row_told) {b__law_rising : Addr} (C__law_rising : FnD P w K mg base b__law_rising "_law_rising" 2 1 F__law_rising) {b__law_row_key : Addr} (C__law_row_key : FnD P w K mg base b__law_row_key "_law_row_key" 2 1 F__law_row_key) :
    FnD P w K mg base f "_law_due" 6 1 (F__law_due) := by
  refine fnD_of (m := m__law_due) F sc__law_due hb hg rfl (fun cdv A0 outer s H E hr => ?_)
  have nd : N__law_due.Nodup := sc__law_due.nd
  exact ⟨_, (b_cons (s_if (t_cmp (c_eqP hr (K := K)) (j_var 0) j_str) (b_one (s_ret (j_f (f_lst a_nil)))) b_nil) (b_cons (s_setO 1 nd (f_lst a_nil)) (b_cons (s_for PassesOwn.never (i_any (K := K) (j_bm (K := K) (m_split (K := K)) (j_var 0) (a_cons j_str a_nil))) (g_name 2 nd) (b_cons (s_set 3 nd (j_call (K := K) C__law_row_told hr (a_cons (j_var 2) a_nil))) (b_cons (s_if (t_cmp c_is (j_var 3) j_non) (b_one (s_frz 1 (s_ret (j_tup (a_cons j_str (a_cons (j_cb (b_len (K := K)) T.b_len (a_cons (j_var 1) a_nil)) a_nil)))))) b_nil) (b_one (s_app (K := K) 1 (j_var 3)))))) (b_frz 1 (b_cons (s_set 4 nd (j_call (K := K) C__law_rising hr (a_cons (j_f (f_lc (own := [("row", 3)]) nd (by exact (i_any (K := K) (j_var 1))) (by exact blkOk_by (N := N__law_due) (sc := defScope s__law_due) (by decide +kernel)) (by exact fun _ _ _ _ _ => (g_name 3 nd)) (by exact fun _ _ _ _ _ => ts_nil) (by exact fun _ _ _ _ _ => (j_call (K := K) C__law_row_key hr (a_cons (j_var 3) a_nil))))) a_nil))) (b_cons (s_if (t_cmp c_isnot (j_var 4) j_non) (b_one (s_ret (j_tup (a_cons j_str (a_cons (j_var 4) a_nil))))) b_nil) (b_one (s_ret (j_var 1)))))))))⟩

end
end KN

set_option Elab.async false
set_option linter.all false
set_option maxRecDepth 100000
set_option maxHeartbeats 8000000
namespace KN
open PySem PySem.Spec PyProof.Rows L2 Evl DD
section
variable {P : Program} {w : World} {K : PySem.W.Frag} {mg : Str → Option Value} {base : Heap}
abbrev s__law_texts : Stmt := topS 44
abbrev N__law_texts : List Str := ["text", "numbers", "pieces", "lines", "at", "line", "spot", "sign", "words", "word", "found", "bent", "other"]
theorem sc__law_texts : FnScope N__law_texts ["text", "numbers", "pieces"] (defScope s__law_texts) := ⟨rfl, rfl, rfl, by decide +kernel, rfl, by decide +kernel, by decide +kernel⟩
def m__law_texts : MS := (mSeq (mAsg 3 (mMeth splitD (mVar 0) (mCons (mC (.str "\n")) mNil))) (mSeq (mAsg 4 (mOp modD (mOp ixLD (mVar 1) (mC (.int 0))) (mCall lenKD (mCons (mVar 3) mNil)))) (mSeq (mAsg 5 (mOp ixLD (mVar 3) (mVar 4))) (mSeq (mAsg 6 (mOp modD (mOp ixLD (mVar 1) (mC (.int 1))) (mOp addK (mCall lenKD (mCons (mVar 5) mNil)) (mC (.int 1))))) (mSeq (mAsg 7 (mOp ixLD (mVar 2) (mOp modD (mOp ixLD (mVar 1) (mC (.int 2))) (mCall lenKD (mCons (mVar 2) mNil))))) (mSeq (mAsg 8 (mMeth splitD (mVar 5) (mCons (mC (.str " ")) mNil))) (mSeq (mAsg 9 (mOp ixLD (mVar 8) (mOp modD (mOp ixLD (mVar 1) (mC (.int 1))) (mCall lenKD (mCons (mVar 8) mNil))))) (mSeq (mAsgO 10 (few (mCons (mVar 0) (mCons (mOp addK (mVar 0) (mC (.str "\n"))) (mCons (mOp addK (mC (.str "\n")) (mVar 0)) (mCons (mOp addK (mVar 0) (mC (.str " "))) (mCons (mOp addK (mC (.str " ")) (mVar 0)) (mCons (mC (.str "")) (mCons (mOp addK (mOp addK (mVar 0) (mC (.str "\n"))) (mVar 5)) (mCons (mVar 5) (mCons (mMeth repD (mVar 0) (mCons (mC (.str " ")) (mCons (mC (.str "  ")) (mCons (mC (.int 1)) mNil)))) (mCons (mMeth joinD (mC (.str "\n")) (mCons (mRev (mVar 3)) mNil)) mNil)))))))))))) (mSeq (mAsg 11 (mLst (few (mCons (mOp addK (mOp addK (mSl slKD (mVar 5) mNoPart (mPart (mVar 6))) (mVar 7)) (mSl slKD (mVar 5) (mPart (mVar 6)) mNoPart)) (mCons (mOp addK (mOp addK (mSl slKD (mVar 5) mNoPart (mPart (mVar 6))) (mVar 7)) (mSl slKD (mVar 5) (mPart (mOp addK (mVar 6) (mC (.int 1)))) mNoPart)) (mCons (mOp addK (mSl slKD (mVar 5) mNoPart (mPart (mVar 6))) (mSl slKD (mVar 5) (mPart (mOp addK (mVar 6) (mC (.int 1)))) mNoPart)) (mCons (mMeth joinD (mC (.str " ")) (mCons (mRev (mVar 8)) mNil)) (mCons (mMeth joinD (mC (.str " ")) (mCons (mSl slKD (mVar 8) mNoPart (mPart (mUn negD (mC (.int 1))))) mNil)) mNil)))))))) (mSeq (mAsg 11 (mOp addK (mVar 11) (mLst (few (mCons (mMeth joinD (mC (.str " ")) (mCons (mSl slKD (mVar 8) (mPart (mC (.int 1))) mNoPart) mNil)) (mCons (mOp addK (mOp addK (mVar 5) (mC (.str " "))) (mVar 9)) (mCons (mOp addK (mOp addK (mVar 9) (mC (.str " "))) (mVar 5)) (mCons (mMeth repD (mVar 5) (mCons (mVar 9) (mCons (mVar 7) (mCons (mC (.int 1)) mNil)))) (mCons (mMeth repD (mVar 5) (mCons (mVar 9) (mCons (mOp catSD (mVar 9) (mC (.str "1"))) (mCons (mC (.int 1)) mNil)))) (mCons (mMeth repD (mVar 5) (mCons (mVar 9) (mCons (mOp catSD (mC (.str "0")) (mVar 9)) (mCons (mC (.int 1)) mNil)))) mNil)))))))))) (mSeq (mFor (mItems (mVar 11)) (gN 12) (mApp 10 (mMeth joinD (mC (.str "\n")) (mCons (mOp addD (mOp addD (mSl slD (mVar 3) mNoPart (mPart (mVar 4))) (mLst (few (mCons (mVar 12) mNil)))) (mSl slD (mVar 3) (mPart (mOp addD (mVar 4) (mC (.int 1)))) mNoPart)) mNil)))) (fun ρ => (mRet (mOp addD (mVar 10) (mLst (few (mCons (mMeth joinD (mC (.str "\n")) (mCons (mOp addD (mSl slD (mVar 3) mNoPart (mPart (mVar 4))) (mSl slD (mVar 3) (mPart (mOp addD (mVar 4) (mC (.int 1)))) mNoPart)) mNil)) (mCons (mMeth joinD (mC (.str "\n")) (mCons (mOp addD (mOp addD (mSl slD (mVar 3) mNoPart (mPart (mVar 4))) (mLst (few (mCons (mVar 5) mNil)))) (mSl slD (mVar 3) (mPart (mVar 4)) mNoPart)) mNil)) mNil)))))) (frz 10 ρ)))))))))))))
def F__law_texts : List D → Option D := runF N__law_texts 3 m__law_texts
abbrev P0 (B : Nat) : Nat → Nat → Prop := fun _ t => 1 ≤ t ∧ t < B
abbrev P2 (B T : Nat) : Nat → Nat → Prop := fun _ t => B ≤ t ∧ t < T
abbrev Pw (B T : Nat) : Nat → Nat → Prop := fun n t => 1 ≤ t ∧ (t < B ∨ T ≤ t) ∧ t < n
theorem fn__law_texts (T : Tx K mg) (nb : PySem.W.nsIn K cStatics sharingNotToldKey = some none) {f : Addr} {fd : FuncData} (F : Fun K "_law_texts" "_law_texts" s__law_texts f fd) (hb : Binds K fd ["text", "numbers", "pieces"] []) (hg : mg "_law_texts" = some (.ref f)) {B T0 : Nat} (h1B : 1 ≤ B) (hB : B ≤ T0) :
    FnZ P w K mg base f "_law_texts" 3 ["text", "numbers", "pieces"] T0 [⟨"text", false, P0 B⟩, ⟨"pieces", true, P2 B T0⟩] F__law_texts := by
  have nd : N__law_texts.Nodup := sc__law_texts.nd
  have h1T : 1 ≤ T0 := Nat.le_trans h1B hB
  have mP0 : ∀ n n' t, n ≤ n' → P0 B n t → P0 B n' t := fun _ _ _ _ h => h
  have mP2 : ∀ n n' t, n ≤ n' → P2 B T0 n t → P2 B T0 n' t := fun _ _ _ _ h => h
  have mPw : ∀ n n' t, n ≤ n' → Pw B T0 n t → Pw B T0 n' t := fun _ _ _ l h => ⟨h.1, h.2.1, Nat.lt_of_lt_of_le h.2.2 l⟩
  have h0w : ∀ n t, T0 ≤ n → P0 B n t → Pw B T0 n t := fun n t l h => ⟨h.1, .inl h.2, by have := h.2; omega⟩
  have hF : ∀ n n' t, T0 ≤ n → n ≤ t → t < n' → Pw B T0 n' t := fun n n' t a b c => ⟨by omega, .inr (by omega), c⟩
  have hd : ∀ n t u, Pw B T0 n t → P2 B T0 n u → t ≠ 0 ∧ u ≠ 0 ∧ t ≠ u := fun n t u a b => ⟨by have := a.1; omega, by have := b.1; omega, by have := a.2.1; have := b.1; have := b.2; omega⟩
  have hPw : ∀ n t, Pw B T0 n t → t ≠ 0 ∧ t < n := fun n t a => ⟨by have := a.1; omega, a.2.2⟩
  have mo0 : Mono ([] : List Fact) := fun f hf => absurd hf (by simp)
  have moc : ∀ {x : Str} {L : Bool} {Q : Nat → Nat → Prop} {τ : List Fact}, (∀ n n' t, n ≤ n' → Q n t → Q n' t) → Mono τ → Mono (⟨x, L, Q⟩ :: τ) := fun {x L Q τ} h m f hf => by
    rcases List.mem_cons.mp hf with e | hf
    · subst e
      exact h
    · exact m f hf
  have mo2 : Mono [⟨"text", false, P0 B⟩, ⟨"pieces", true, P2 B T0⟩] := moc mP0 (moc mP2 mo0)
  have mo3 : Mono [⟨"lines", true, Pw B T0⟩, ⟨"text", false, P0 B⟩, ⟨"pieces", true, P2 B T0⟩] := moc mPw mo2
  have mo4 : Mono [⟨"line", false, Pw B T0⟩, ⟨"lines", true, Pw B T0⟩, ⟨"text", false, P0 B⟩, ⟨"pieces", true, P2 B T0⟩] := moc mPw mo3
  have mo5 : Mono [⟨"sign", false, P2 B T0⟩, ⟨"line", false, Pw B T0⟩, ⟨"lines", true, Pw B T0⟩, ⟨"text", false, P0 B⟩, ⟨"pieces", true, P2 B T0⟩] := moc mP2 mo4
  have mo6 : Mono [⟨"words", true, Pw B T0⟩, ⟨"sign", false, P2 B T0⟩, ⟨"line", false, Pw B T0⟩, ⟨"lines", true, Pw B T0⟩, ⟨"text", false, P0 B⟩, ⟨"pieces", true, P2 B T0⟩] := moc mPw mo5
  have mo7 : Mono [⟨"word", false, Pw B T0⟩, ⟨"words", true, Pw B T0⟩, ⟨"sign", false, P2 B T0⟩, ⟨"line", false, Pw B T0⟩, ⟨"lines", true, Pw B T0⟩, ⟨"text", false, P0 B⟩, ⟨"pieces", true, P2 B T0⟩] := moc mPw mo6
  refine fnZ_of (m := m__law_texts) mo2 F sc__law_texts hb hg (by decide +kernel) (fun cdv A0 outer s H E hr => ?_)
  have J : JPB (cxOf CX0 P w K mg base N__law_texts "_law_texts" (defScope s__law_texts) f cdv A0 outer s H E).nox T0 [⟨"text", false, P0 B⟩, ⟨"pieces", true, P2 B T0⟩] W0 (defBody s__law_texts) _ m__law_texts :=
    (pb_z (zs_split (P' := Pw B T0) (τ := [⟨"text", false, P0 B⟩, ⟨"pieces", true, P2 B T0⟩]) 3 0 mo2 mPw List.mem_cons_self h0w hF nd (by exact (by decide : ("lines" : Str) ∉ (["text", "pieces"] : List Str))) (K := K)) (pb_z (zs_set (τ := [⟨"lines", true, Pw B T0⟩, ⟨"text", false, P0 B⟩, ⟨"pieces", true, P2 B T0⟩]) 4 mo3 nd (n_of (k_mod (k_ix (K := K) (k_var 1) k_int) (k_len T.b_len (k_var 3)))) (by exact (by decide : ("at" : Str) ∉ (["lines", "text", "pieces"] : List Str)))) (pb_z (zs_ix (P' := Pw B T0) (τ := [⟨"lines", true, Pw B T0⟩, ⟨"text", false, P0 B⟩, ⟨"pieces", true, P2 B T0⟩]) 5 3 mo3 mPw List.mem_cons_self (fun _ _ _ h => h) nd (k_var 4) (by exact (by decide : ("line" : Str) ∉ (["lines", "text", "pieces"] : List Str))) (K := K)) (pb_z (zs_set (τ := [⟨"line", false, Pw B T0⟩, ⟨"lines", true, Pw B T0⟩, ⟨"text", false, P0 B⟩, ⟨"pieces", true, P2 B T0⟩]) 6 mo4 nd (n_of (k_mod (k_ix (K := K) (k_var 1) k_int) (k_add (K := K) (k_len T.b_len (k_var 5)) k_int))) (by exact (by decide : ("spot" : Str) ∉ (["line", "lines", "text", "pieces"] : List Str)))) (pb_z (zs_ix (P' := P2 B T0) (τ := [⟨"line", false, Pw B T0⟩, ⟨"lines", true, Pw B T0⟩, ⟨"text", false, P0 B⟩, ⟨"pieces", true, P2 B T0⟩]) 7 2 mo4 mP2 (List.mem_cons_of_mem _ (List.mem_cons_of_mem _ (List.mem_cons_of_mem _ List.mem_cons_self))) (fun _ _ _ h => h) nd (k_mod (k_ix (K := K) (k_var 1) k_int) (k_len T.b_len (k_var 2))) (by exact (by decide : ("sign" : Str) ∉ (["line", "lines", "text", "pieces"] : List Str))) (K := K)) (pb_z (zs_split (P' := Pw B T0) (τ := [⟨"sign", false, P2 B T0⟩, ⟨"line", false, Pw B T0⟩, ⟨"lines", true, Pw B T0⟩, ⟨"text", false, P0 B⟩, ⟨"pieces", true, P2 B T0⟩]) 8 5 mo5 mPw (List.mem_cons_of_mem _ List.mem_cons_self) (fun _ _ _ h => h) hF nd (by exact (by decide : ("words" : Str) ∉ (["sign", "line", "lines", "text", "pieces"] : List Str))) (K := K)) (pb_z (zs_ix (P' := Pw B T0) (τ := [⟨"words", true, Pw B T0⟩, ⟨"sign", false, P2 B T0⟩, ⟨"line", false, Pw B T0⟩, ⟨"lines", true, Pw B T0⟩, ⟨"text", false, P0 B⟩, ⟨"pieces", true, P2 B T0⟩]) 9 8 mo6 mPw List.mem_cons_self (fun _ _ _ h => h) nd (k_mod (k_ix (K := K) (k_var 1) k_int) (k_len T.b_len (k_var 8))) (by exact (by decide : ("word" : Str) ∉ (["words", "sign", "line", "lines", "text", "pieces"] : List Str))) (K := K)) (pb_z (zs_setO (τ := [⟨"word", false, Pw B T0⟩, ⟨"words", true, Pw B T0⟩, ⟨"sign", false, P2 B T0⟩, ⟨"line", false, Pw B T0⟩, ⟨"lines", true, Pw B T0⟩, ⟨"text", false, P0 B⟩, ⟨"pieces", true, P2 B T0⟩]) 10 mo7 nd (na_cons mo7 (n_of (k_var 0)) (na_cons mo7 (n_of (k_add (K := K) (k_var 0) k_str)) (na_cons mo7 (n_of (k_add (K := K) k_str (k_var 0))) (na_cons mo7 (n_of (k_add (K := K) (k_var 0) k_str)) (na_cons mo7 (n_of (k_add (K := K) k_str (k_var 0))) (na_cons mo7 (n_of k_str) (na_cons mo7 (n_of (k_add (K := K) (k_add (K := K) (k_var 0) k_str) (k_var 5))) (na_cons mo7 (n_of (k_var 5)) (na_cons mo7 (n_rep (K := K) nb mo7 (n_of (k_var 0)) (nr_const h1T)) (na_cons mo7 (n_of (k_join (K := K) k_str (ka_cons (k_rev (K := K) (k_var 3)) ka_nil))) na_nil)))))))))) (by exact (by decide : ("found" : Str) ∉ (["word", "words", "sign", "line", "lines", "text", "pieces"] : List Str)))) (pb_z (zs_set (τ := [⟨"word", false, Pw B T0⟩, ⟨"words", true, Pw B T0⟩, ⟨"sign", false, P2 B T0⟩, ⟨"line", false, Pw B T0⟩, ⟨"lines", true, Pw B T0⟩, ⟨"text", false, P0 B⟩, ⟨"pieces", true, P2 B T0⟩]) 11 mo7 nd (n_of (k_lst (ka_cons (k_add (K := K) (k_add (K := K) (k_sl (K := K) (k_var 5) ko_none (ko_some (k_var 6))) (k_var 7)) (k_sl (K := K) (k_var 5) (ko_some (k_var 6)) ko_none)) (ka_cons (k_add (K := K) (k_add (K := K) (k_sl (K := K) (k_var 5) ko_none (ko_some (k_var 6))) (k_var 7)) (k_sl (K := K) (k_var 5) (ko_some (k_add (K := K) (k_var 6) k_int)) ko_none)) (ka_cons (k_add (K := K) (k_sl (K := K) (k_var 5) ko_none (ko_some (k_var 6))) (k_sl (K := K) (k_var 5) (ko_some (k_add (K := K) (k_var 6) k_int)) ko_none)) (ka_cons (k_join (K := K) k_str (ka_cons (k_rev (K := K) (k_var 8)) ka_nil)) (ka_cons (k_join (K := K) k_str (ka_cons (k_sl (K := K) (k_var 8) ko_none (ko_some (k_neg k_int))) ka_nil)) ka_nil))))))) (by exact (by decide : ("bent" : Str) ∉ (["word", "words", "sign", "line", "lines", "text", "pieces"] : List Str)))) (pb_z (zs_set (τ := [⟨"word", false, Pw B T0⟩, ⟨"words", true, Pw B T0⟩, ⟨"sign", false, P2 B T0⟩, ⟨"line", false, Pw B T0⟩, ⟨"lines", true, Pw B T0⟩, ⟨"text", false, P0 B⟩, ⟨"pieces", true, P2 B T0⟩]) 11 mo7 nd (n_add (K := K) mo7 (n_of (k_var 11)) (n_lst (na_cons mo7 (n_of (k_join (K := K) k_str (ka_cons (k_sl (K := K) (k_var 8) (ko_some k_int) ko_none) ka_nil))) (na_cons mo7 (n_of (k_add (K := K) (k_add (K := K) (k_var 5) k_str) (k_var 9))) (na_cons mo7 (n_of (k_add (K := K) (k_add (K := K) (k_var 9) k_str) (k_var 5))) (na_cons mo7 (n_rep (K := K) nb mo7 (n_of (k_var 5)) (nr_names 9 7 List.mem_cons_self (List.mem_cons_of_mem _ (List.mem_cons_of_mem _ List.mem_cons_self)) hd)) (na_cons mo7 (n_rep (K := K) nb mo7 (n_of (k_var 5)) (nr_addR 9 List.mem_cons_self hPw)) (na_cons mo7 (n_rep (K := K) nb mo7 (n_of (k_var 5)) (nr_addL 9 List.mem_cons_self hPw)) na_nil)))))))) (by exact (by decide : ("bent" : Str) ∉ (["word", "words", "sign", "line", "lines", "text", "pieces"] : List Str)))) (pb_of (b_cons (s_for PassesOwn.never (i_any (K := K) (j_var 11)) (g_name 12 nd) (b_one (s_app (K := K) 10 (j_bm (K := K) (m_join (K := K)) j_str (a_cons (j_add (K := K) (j_add (K := K) (j_sl (K := K) (j_var 3) o_none (o_some (j_var 4))) (j_f (f_lst (a_cons (j_var 12) a_nil)))) (j_sl (K := K) (j_var 3) (o_some (j_add (K := K) (j_var 4) j_int)) o_none)) a_nil))))) (b_frz 10 (b_one (s_ret (j_add (K := K) (j_var 10) (j_f (f_lst (a_cons (j_bm (K := K) (m_join (K := K)) j_str (a_cons (j_add (K := K) (j_sl (K := K) (j_var 3) o_none (o_some (j_var 4))) (j_sl (K := K) (j_var 3) (o_some (j_add (K := K) (j_var 4) j_int)) o_none)) a_nil)) (a_cons (j_bm (K := K) (m_join (K := K)) j_str (a_cons (j_add (K := K) (j_add (K := K) (j_sl (K := K) (j_var 3) o_none (o_some (j_var 4))) (j_f (f_lst (a_cons (j_var 5) a_nil)))) (j_sl (K := K) (j_var 3) (o_some (j_var 4)) o_none)) a_nil)) a_nil))))))))))))))))))))
  exact ⟨_, J.p, J.m⟩
abbrev s__law_row_text : Stmt := topS 54
abbrev N__law_row_text : List Str := ["row"]
theorem sc__law_row_text : FnScope N__law_row_text ["row"] (defScope s__law_row_text) := ⟨rfl, rfl, rfl, by decide +kernel, rfl, by decide +kernel, by decide +kernel⟩
def m__law_row_text : MS := mRet (mMeth joinMD (mC (.str " ")) (mCons (mOp addK (mOp addK (mOp addK (mOp addK (mCall F__law_kind_words (mCons (mOp ixD (mVar 0) (mC (.int 0))) mNil)) (mLst (few (mCons (mC (.str ";")) mNil)))) (mCall F__law_waiting_words (mCons (mOp ixD (mVar 0) (mC (.int 1))) mNil))) (mLst (few (mCons (mC (.str ";")) mNil)))) (mCall F__law_waiting_words (mCons (mOp ixD (mVar 0) (mC (.int 2))) mNil))) mNil))
def F__law_row_text : List D → Option D := runF N__law_row_text 1 m__law_row_text
theorem fn__law_row_text (T : Tx K mg) {f : Addr} {fd : FuncData} (F : Fun K "_law_row_text" "_law_row_text" s__law_row_text f fd) (hb : Binds K fd ["row"] []) (hg : mg "_law_row_text" = some (.ref f)) {b__law_kind_words : Addr} (C__law_kind_words : FnD P w K mg base b__law_kind_words "_law_kind_words" 2 1 F__law_kind_words) {b__law_waiting_words : Addr} (C__law_waiting_words : FnD P w K mg base b__law_waiting_words "_law_waiting_words" 2 1 F__law_waiting_words) :
    FnG P w K mg base f "_law_row_text" 3 1 F__law_row_text := by
  have nd : N__law_row_text.Nodup := sc__law_row_text.nd
  refine fnG_of (m := m__law_row_text) F sc__law_row_text hb hg rfl (by decide +kernel) (fun cdv A0 outer s H E hr => ?_)
  have J : JGB (cxOf CX0 P w K mg base N__law_row_text "_law_row_text" (defScope s__law_row_text) f cdv A0 outer s H E).nox W0 (defBody s__law_row_text) _ m__law_row_text :=
    gb_ret (h_of (ν := []) (g_joinM (k_add (K := K) (k_add (K := K) (k_add (K := K) (k_add (K := K) (k_call (K := K) C__law_kind_words hr (ka_cons (k_ixA (K := K) (k_var 0) k_int) ka_nil)) (k_lst (ka_cons k_str ka_nil))) (k_call (K := K) C__law_waiting_words hr (ka_cons (k_ixA (K := K) (k_var 0) k_int) ka_nil))) (k_lst (ka_cons k_str ka_nil))) (k_call (K := K) C__law_waiting_words hr (ka_cons (k_ixA (K := K) (k_var 0) k_int) ka_nil))) (K := K)))
  exact ⟨_, J.p, J.m⟩

end
end KN

set_option Elab.async false
set_option linter.all false
set_option maxRecDepth 100000
set_option maxHeartbeats 8000000
namespace KN
open PySem PySem.Spec PyProof.Rows L2 Evl DD
section
variable {P : Program} {w : World} {K : PySem.W.Frag} {mg : Str → Option Value} {base : Heap}
abbrev s_law : Stmt := topS 60
abbrev N_law : List Str := ["script", "numbers", "at", "rows", "text", "turn", "changed", "row"]
theorem sc_law : FnScope N_law ["script"] (defScope s_law) := ⟨rfl, rfl, rfl, by decide +kernel, rfl, by decide +kernel, by decide +kernel⟩
noncomputable def mTurn_law (P : Program) (w : World) (c_BadLine : Addr) (f_row_line : Addr) (Tb : Addr → Option (List D → Option D)) : MS := (mSeq (mAsg 3 (mCall (F__law_some_rows P w) (mCons (mVar 0) (mCons (mVar 2) mNil)))) (mSeq (mAsg 4 (mMeth joinD (mC (.str "\n")) (mCons (mLst (mLc (mItemsK (mVar 3)) (gN 7) mYes (mCall F__law_row_text (mCons (mVar 7) mNil)) [7])) mNil))) (mSeq (mIfS (mOr (mTest (mOp neP (mCall F_show_table (mCons (mCall listKD (mCons (mVar 3) mNil)) mNil)) (mVar 4))) (mTest (mOp neP (mCall (F__law_note c_BadLine f_row_line Tb) (mCons (mVar 4) mNil)) (mVar 3)))) (mRet (mC (.bl false))) mNext) (mSeq (mFor (mRange1 (mCons (mC (.int 3)) mNil)) (gN 5) (mFor (mItemsL (mCall F__law_texts (mCons (mVar 4) (mCons (mSl slKD (mVar 1) (mPart (mOp addK (mOp mulD (mC (.int 3)) (mVar 5)) (mOp mulD (mC (.int 15)) (mCall intF (mCons (mOp eqP (mVar 2) (mC (.int 3))) mNil))))) mNoPart) (mCons (mLst (few (mCons (mC (.str ":")) (mCons (mC (.str " ")) (mCons (mC (.str "0")) (mCons (mC (.str "7")) (mCons (mC (.str ";")) (mCons (mC (.str "-")) (mCons (mC (.str "/")) (mCons (mC (.str " /")) (mCons (mC (.str "a")) (mCons (mC (.str "\n")) (mCons (mC (.str "12")) (mCons (mC (.str "; -")) mNil)))))))))))))) mNil))))) (gN 6) (mIfS (mTest (mOp neP (mCall (F__law_note c_BadLine f_row_line Tb) (mCons (mVar 6) mNil)) (mCall F__law_due (mCons (mVar 6) mNil)))) (mRet (mC (.bl false))) mNext))) mNext))))
def mRest_law (c_BadLine : Addr) (f_row_line : Addr) (Tb : Addr → Option (List D → Option D)) : MS := (mSeq (mAsg 3 (mLst (few (mCons (mC (.str "a : : ; - ; -")) (mCons (mC (.str "a : : ; / ; -")) (mCons (mC (.str "a : 0 : 1 ; 0 2 / 1 ; -")) (mCons (mC (.str "a : : ; 0 / ; / 1")) (mCons (mC (.str "a : : ; - - ; -")) (mCons (mC (.str "a : : ; 0 ; -")) (mCons (mC (.str "a : : ; / / ; -")) mNil)))))))))) (mSeq (mAsg 3 (mOp addD (mVar 3) (mLst (few (mCons (mC (.str "a : : ;  ; -")) (mCons (mC (.str "a : : ; -")) (mCons (mC (.str "a : : ; - ; - ; -")) (mCons (mC (.str "a : : ;- ; -")) (mCons (mC (.str "a : : ; 1 0 / ; -")) (mCons (mC (.str "a : ; - ; -")) (mCons (mC (.str "a : : ; - ; -\nx")) mNil))))))))))) (mSeq (mAsg 3 (mOp addD (mVar 3) (mLst (few (mCons (mC (.str "a : : ; - ; -\na : : ; / ; -")) (mCons (mC (.str "a : : ; / ; -\na : : ; - ; -")) (mCons (mC (.str "a : : ; - ; /\na : : ; - ; -")) (mCons (mC (.str "a : : ; / ; /\na : : ; / ; /")) mNil)))))))) (mSeq (mAsg 3 (mOp addD (mVar 3) (mLst (few (mCons (mC (.str "a : : ; / 5 ; -\na : : ; 0 / ; -")) (mCons (mC (.str "b : : ; - ; -\na : : ; - ; -")) mNil)))))) (mSeq (mFor (mItems (mVar 3)) (gN 6) (mIfS (mTest (mOp neP (mCall (F__law_note c_BadLine f_row_line Tb) (mCons (mVar 6) mNil)) (mCall F__law_due (mCons (mVar 6) mNil)))) (mRet (mC (.bl false))) mNext)) (mRet (mOp eqP (mCall F_show_table (mCons (mLst (few mNil)) mNil)) (mC (.str "")))))))))
noncomputable def m_law (P : Program) (w : World) (c_BadLine : Addr) (f_row_line : Addr) (Tb : Addr → Option (List D → Option D)) : MS := (mSeq (mAsg 1 (mCall F__law_numbers (mCons (mVar 0) (mCons (mC (.int 0)) (mCons (mC (.int 40)) mNil))))) (mSeq (mFor (mItemsK (mLst (few (mCons (mC (.int 1)) (mCons (mC (.int 3)) mNil))))) (gN 2) (mTurn_law P w c_BadLine f_row_line Tb)) (mRest_law c_BadLine f_row_line Tb)))
theorem walk_law (T : Tx K mg) {c_BadLine : Addr} {f_row_line : Addr} {Tb : Addr → Option (List D → Option D)} {b__law_some_rows : Addr} (C__law_some_rows : FnD P w K mg base b__law_some_rows "_law_some_rows" 4 2 (F__law_some_rows P w)) {b_show_table : Addr} (C_show_table : FnD P w K mg base b_show_table "show_table" 5 1 F_show_table) {b__law_note : Addr} (C__law_note : FnD P w K mg base b__law_note "_law_note" 13 1 (F__law_note c_BadLine f_row_line Tb)) {b__law_due : Addr} (C__law_due : FnD P w K mg base b__law_due "_law_due" 6 1 F__law_due) {b__law_numbers : Addr} (C__law_numbers : FnD P w K mg base b__law_numbers "_law_numbers" 2 3 F__law_numbers) {b__law_row_text : Addr} (C__law_row_text : FnG P w K mg base b__law_row_text "_law_row_text" 3 1 F__law_row_text) {b__law_texts : Addr} (C__law_texts : ∀ B T0 : Nat, 1 ≤ B → B ≤ T0 → FnZ P w K mg base b__law_texts "_law_texts" 3 ["text", "numbers", "pieces"] T0 [⟨"text", false, P0 B⟩, ⟨"pieces", true, P2 B T0⟩] F__law_texts)
    {f : Addr} (cdv : Value) (A0 : Around) (outer : List Env) (s : Shared) (H : Hp) (E : XK) (hr : Room 13 (A0.deeper (envOfC "law" (defScope s_law) s.heap.objs.size f cdv))) :
    ∃ t, JPB (cxOf CX0 P w K mg base N_law "law" (defScope s_law) f cdv A0 outer s H E).nox 0 [] W0 (defBody s_law) t (m_law P w c_BadLine f_row_line Tb) := by
  have nd : N_law.Nodup := sc_law.nd
  have mo0 : Mono ([] : List Fact) := fun f hf => absurd hf (by simp)
  have moc : ∀ {x : Str} {L : Bool} {Q : Nat → Nat → Prop} {τ : List Fact}, (∀ n n' t, n ≤ n' → Q n t → Q n' t) → Mono τ → Mono (⟨x, L, Q⟩ :: τ) := fun {x L Q τ} h m f hf => by
    rcases List.mem_cons.mp hf with e | hf
    · subst e
      exact h
    · exact m f hf
  have mo1 : Mono [⟨"text", false, Pn⟩] := moc Pn.mono mo0
  have mF1 : ∀ B n n' t : Nat, n ≤ n' → (B ≤ t ∧ t < n) → (B ≤ t ∧ t < n') := fun B n n' t l h => ⟨h.1, Nat.lt_of_lt_of_le h.2 l⟩
  have hF1 : ∀ B n t : Nat, B ≤ t → t < n → (B ≤ t ∧ t < n) := fun B n t a b => ⟨a, b⟩
  exact ⟨_, (pb_first (K := K) 1 0 nd C__law_numbers hr (pb_for0 PassesOwn.never (ni_of (ki_seq (K := K) (k_lst (ka_cons k_int (ka_cons k_int ka_nil))))) (kg_name 2 nd) (pb_p (s_set 3 nd (j_call (K := K) C__law_some_rows hr (a_cons (j_var 0) (a_cons (j_var 2) a_nil)))) (pb_z (zs_one 4 (Nat.le_refl _) nd (h_joinLc (own := [("row", 7)]) (K := K) nd (by exact ki_seq (K := K) (k_var 3)) (by exact blkOk_by (N := N_law) (sc := defScope s_law) (by decide +kernel)) (by exact fun _ _ _ _ _ => kg_name 7 nd) (by exact fun _ _ _ _ _ => (g_call (K := K) C__law_row_text hr (ka_cons (k_var 7) ka_nil))))) (pb_n mo1 (ns_of (ks_if (kt_w (kw_or (kt_neP hr (k_call (K := K) C_show_table hr (ka_cons (k_list T.b_list (k_var 3)) ka_nil)) (k_var 4) (K := K)) (kw_or1 (kt_neP hr (k_call (K := K) C__law_note hr (ka_cons (k_var 4) ka_nil)) (k_var 3) (K := K))))) (kb_one (ks_ret k_bl)) kb_nil)) (pb_n mo1 (ns_for mo1 PassesOwn.never (ni_of (ki_range1 T.b_range (ka_cons k_int ka_nil))) (kg_name 5 nd (by exact (by decide : ("turn" : Str) ∉ (["text"] : List Str)))) (nb_one (ns_for mo1 PassesOwn.never (ni_list (n_textsI (K := K) (Nat.le_refl _) mo1 C__law_texts hr List.mem_cons_self (fun B h1B => (za_str mo1 (mF1 B) (hF1 B) (za_str mo1 (mF1 B) (hF1 B) (za_str mo1 (mF1 B) (hF1 B) (za_str mo1 (mF1 B) (hF1 B) (za_str mo1 (mF1 B) (hF1 B) (za_str mo1 (mF1 B) (hF1 B) (za_str mo1 (mF1 B) (hF1 B) (za_str mo1 (mF1 B) (hF1 B) (za_str mo1 (mF1 B) (hF1 B) (za_str mo1 (mF1 B) (hF1 B) (za_str mo1 (mF1 B) (hF1 B) (za_str mo1 (mF1 B) (hF1 B) za_nil))))))))))))) (k_sl (K := K) (k_var 1) (ko_some (k_add (K := K) (k_mul k_int (k_var 5)) (k_mul k_int (k_intB T.b_int (k_eqP hr (k_var 2) k_int (K := K)))))) ko_none)) (K := K)) (kg_name 6 nd (by exact (by decide : ("changed" : Str) ∉ (["text"] : List Str)))) (nb_of (kb_one (ks_if (kt_neP hr (k_call (K := K) C__law_note hr (ka_cons (k_var 6) ka_nil)) (k_call (K := K) C__law_due hr (ka_cons (k_var 6) ka_nil)) (K := K)) (kb_one (ks_ret k_bl)) kb_nil)))))) (pb_of b_nil))))) (pb_of (b_cons (s_set 3 nd (j_f (f_lst (a_cons j_str (a_cons j_str (a_cons j_str (a_cons j_str (a_cons j_str (a_cons j_str (a_cons j_str a_nil)))))))))) (b_cons (s_set 3 nd (j_add (K := K) (j_var 3) (j_f (f_lst (a_cons j_str (a_cons j_str (a_cons j_str (a_cons j_str (a_cons j_str (a_cons j_str (a_cons j_str a_nil))))))))))) (b_cons (s_set 3 nd (j_add (K := K) (j_var 3) (j_f (f_lst (a_cons j_str (a_cons j_str (a_cons j_str (a_cons j_str a_nil)))))))) (b_cons (s_set 3 nd (j_add (K := K) (j_var 3) (j_f (f_lst (a_cons j_str (a_cons j_str a_nil)))))) (b_cons (s_for PassesOwn.never (i_any (K := K) (j_var 3)) (g_name 6 nd) (b_one (s_if (t_cmp (c_neP hr (K := K)) (j_call (K := K) C__law_note hr (a_cons (j_var 6) a_nil)) (j_call (K := K) C__law_due hr (a_cons (j_var 6) a_nil))) (b_one (s_ret j_bl)) b_nil))) (b_one (s_ret (j_cmp (c_eqP hr (K := K)) (j_call (K := K) C_show_table hr (a_cons (j_f (f_lst a_nil)) a_nil)) j_str)))))))))))⟩
end
end KN

set_option Elab.async false
set_option linter.all false
set_option maxRecDepth 100000
set_option maxHeartbeats 4000000
namespace KN
open PySem PySem.Spec PyProof.Rows L2 Evl DD
/-! N0: the plain meanings evaluated step by step (simp's rules). -/
def isNonD : D → Bool
  | .val .non => true
  | _ => false

@[simp] theorem e_var0 {d : D} {r : DEnv} : mVar 0 (.pu d :: r) = some d := id rfl
@[simp] theorem e_set0 {y x : DE} {r : DEnv} : List.set (y :: r) 0 x = (x :: r : DEnv) := id rfl
@[simp] theorem e_frz0 {ds : List D} {r : DEnv} : frz 0 (.ow ds :: r) = (.pu (.lst ds) :: r : DEnv) := id rfl
@[simp] theorem e_app0 {ds : List D} {r : DEnv} {m : ME} : mApp 0 m (.ow ds :: r) = (m (.ow ds :: r)).bind fun d => if ds.length < big then some (.nx (.ow (ds ++ [d]) :: r)) else none := id rfl
@[simp] theorem e_var1 {x0 : DE} {d : D} {r : DEnv} : mVar 1 (x0 :: .pu d :: r) = some d := id rfl
@[simp] theorem e_set1 {x0 : DE} {y x : DE} {r : DEnv} : List.set (x0 :: y :: r) 1 x = (x0 :: x :: r : DEnv) := id rfl
@[simp] theorem e_frz1 {x0 : DE} {ds : List D} {r : DEnv} : frz 1 (x0 :: .ow ds :: r) = (x0 :: .pu (.lst ds) :: r : DEnv) := id rfl
@[simp] theorem e_app1 {x0 : DE} {ds : List D} {r : DEnv} {m : ME} : mApp 1 m (x0 :: .ow ds :: r) = (m (x0 :: .ow ds :: r)).bind fun d => if ds.length < big then some (.nx (x0 :: .ow (ds ++ [d]) :: r)) else none := id rfl
@[simp] theorem e_var2 {x0 x1 : DE} {d : D} {r : DEnv} : mVar 2 (x0 :: x1 :: .pu d :: r) = some d := id rfl
@[simp] theorem e_set2 {x0 x1 : DE} {y x : DE} {r : DEnv} : List.set (x0 :: x1 :: y :: r) 2 x = (x0 :: x1 :: x :: r : DEnv) := id rfl
@[simp] theorem e_frz2 {x0 x1 : DE} {ds : List D} {r : DEnv} : frz 2 (x0 :: x1 :: .ow ds :: r) = (x0 :: x1 :: .pu (.lst ds) :: r : DEnv) := id rfl
@[simp] theorem e_app2 {x0 x1 : DE} {ds : List D} {r : DEnv} {m : ME} : mApp 2 m (x0 :: x1 :: .ow ds :: r) = (m (x0 :: x1 :: .ow ds :: r)).bind fun d => if ds.length < big then some (.nx (x0 :: x1 :: .ow (ds ++ [d]) :: r)) else none := id rfl
@[simp] theorem e_var3 {x0 x1 x2 : DE} {d : D} {r : DEnv} : mVar 3 (x0 :: x1 :: x2 :: .pu d :: r) = some d := id rfl
@[simp] theorem e_set3 {x0 x1 x2 : DE} {y x : DE} {r : DEnv} : List.set (x0 :: x1 :: x2 :: y :: r) 3 x = (x0 :: x1 :: x2 :: x :: r : DEnv) := id rfl
@[simp] theorem e_frz3 {x0 x1 x2 : DE} {ds : List D} {r : DEnv} : frz 3 (x0 :: x1 :: x2 :: .ow ds :: r) = (x0 :: x1 :: x2 :: .pu (.lst ds) :: r : DEnv) := id rfl
@[simp] theorem e_app3 {x0 x1 x2 : DE} {ds : List D} {r : DEnv} {m : ME} : mApp 3 m (x0 :: x1 :: x2 :: .ow ds :: r) = (m (x0 :: x1 :: x2 :: .ow ds :: r)).bind fun d => if ds.length < big then some (.nx (x0 :: x1 :: x2 :: .ow (ds ++ [d]) :: r)) else none := id rfl
@[simp] theorem e_var4 {x0 x1 x2 x3 : DE} {d : D} {r : DEnv} : mVar 4 (x0 :: x1 :: x2 :: x3 :: .pu d :: r) = some d := id rfl
@[simp] theorem e_set4 {x0 x1 x2 x3 : DE} {y x : DE} {r : DEnv} : List.set (x0 :: x1 :: x2 :: x3 :: y :: r) 4 x = (x0 :: x1 :: x2 :: x3 :: x :: r : DEnv) := id rfl
@[simp] theorem e_frz4 {x0 x1 x2 x3 : DE} {ds : List D} {r : DEnv} : frz 4 (x0 :: x1 :: x2 :: x3 :: .ow ds :: r) = (x0 :: x1 :: x2 :: x3 :: .pu (.lst ds) :: r : DEnv) := id rfl
@[simp] theorem e_app4 {x0 x1 x2 x3 : DE} {ds : List D} {r : DEnv} {m : ME} : mApp 4 m (x0 :: x1 :: x2 :: x3 :: .ow ds :: r) = (m (x0 :: x1 :: x2 :: x3 :: .ow ds :: r)).bind fun d => if ds.length < big then some (.nx (x0 :: x1 :: x2 :: x3 :: .ow (ds ++ [d]) :: r)) else none := id rfl
@[simp] theorem e_var5 {x0 x1 x2 x3 x4 : DE} {d : D} {r : DEnv} : mVar 5 (x0 :: x1 :: x2 :: x3 :: x4 :: .pu d :: r) = some d := id rfl
@[simp] theorem e_set5 {x0 x1 x2 x3 x4 : DE} {y x : DE} {r : DEnv} : List.set (x0 :: x1 :: x2 :: x3 :: x4 :: y :: r) 5 x = (x0 :: x1 :: x2 :: x3 :: x4 :: x :: r : DEnv) := id rfl
@[simp] theorem e_frz5 {x0 x1 x2 x3 x4 : DE} {ds : List D} {r : DEnv} : frz 5 (x0 :: x1 :: x2 :: x3 :: x4 :: .ow ds :: r) = (x0 :: x1 :: x2 :: x3 :: x4 :: .pu (.lst ds) :: r : DEnv) := id rfl
@[simp] theorem e_app5 {x0 x1 x2 x3 x4 : DE} {ds : List D} {r : DEnv} {m : ME} : mApp 5 m (x0 :: x1 :: x2 :: x3 :: x4 :: .ow ds :: r) = (m (x0 :: x1 :: x2 :: x3 :: x4 :: .ow ds :: r)).bind fun d => if ds.length < big then some (.nx (x0 :: x1 :: x2 :: x3 :: x4 :: .ow (ds ++ [d]) :: r)) else none := id rfl
@[simp] theorem e_var6 {x0 x1 x2 x3 x4 x5 : DE} {d : D} {r : DEnv} : mVar 6 (x0 :: x1 :: x2 :: x3 :: x4 :: x5 :: .pu d :: r) = some d := id rfl
@[simp] theorem e_set6 {x0 x1 x2 x3 x4 x5 : DE} {y x : DE} {r : DEnv} : List.set (x0 :: x1 :: x2 :: x3 :: x4 :: x5 :: y :: r) 6 x = (x0 :: x1 :: x2 :: x3 :: x4 :: x5 :: x :: r : DEnv) := id rfl
@[simp] theorem e_frz6 {x0 x1 x2 x3 x4 x5 : DE} {ds : List D} {r : DEnv} : frz 6 (x0 :: x1 :: x2 :: x3 :: x4 :: x5 :: .ow ds :: r) = (x0 :: x1 :: x2 :: x3 :: x4 :: x5 :: .pu (.lst ds) :: r : DEnv) := id rfl
@[simp] theorem e_app6 {x0 x1 x2 x3 x4 x5 : DE} {ds : List D} {r : DEnv} {m : ME} : mApp 6 m (x0 :: x1 :: x2 :: x3 :: x4 :: x5 :: .ow ds :: r) = (m (x0 :: x1 :: x2 :: x3 :: x4 :: x5 :: .ow ds :: r)).bind fun d => if ds.length < big then some (.nx (x0 :: x1 :: x2 :: x3 :: x4 :: x5 :: .ow (ds ++ [d]) :: r)) else none := id rfl
@[simp] theorem e_var7 {x0 x1 x2 x3 x4 x5 x6 : DE} {d : D} {r : DEnv} : mVar 7 (x0 :: x1 :: x2 :: x3 :: x4 :: x5 :: x6 :: .pu d :: r) = some d := id rfl
@[simp] theorem e_set7 {x0 x1 x2 x3 x4 x5 x6 : DE} {y x : DE} {r : DEnv} : List.set (x0 :: x1 :: x2 :: x3 :: x4 :: x5 :: x6 :: y :: r) 7 x = (x0 :: x1 :: x2 :: x3 :: x4 :: x5 :: x6 :: x :: r : DEnv) := id rfl
@[simp] theorem e_frz7 {x0 x1 x2 x3 x4 x5 x6 : DE} {ds : List D} {r : DEnv} : frz 7 (x0 :: x1 :: x2 :: x3 :: x4 :: x5 :: x6 :: .ow ds :: r) = (x0 :: x1 :: x2 :: x3 :: x4 :: x5 :: x6 :: .pu (.lst ds) :: r : DEnv) := id rfl
@[simp] theorem e_app7 {x0 x1 x2 x3 x4 x5 x6 : DE} {ds : List D} {r : DEnv} {m : ME} : mApp 7 m (x0 :: x1 :: x2 :: x3 :: x4 :: x5 :: x6 :: .ow ds :: r) = (m (x0 :: x1 :: x2 :: x3 :: x4 :: x5 :: x6 :: .ow ds :: r)).bind fun d => if ds.length < big then some (.nx (x0 :: x1 :: x2 :: x3 :: x4 :: x5 :: x6 :: .ow (ds ++ [d]) :: r)) else none := id rfl
@[simp] theorem e_var8 {x0 x1 x2 x3 x4 x5 x6 x7 : DE} {d : D} {r : DEnv} : mVar 8 (x0 :: x1 :: x2 :: x3 :: x4 :: x5 :: x6 :: x7 :: .pu d :: r) = some d := id rfl
@[simp] theorem e_set8 {x0 x1 x2 x3 x4 x5 x6 x7 : DE} {y x : DE} {r : DEnv} : List.set (x0 :: x1 :: x2 :: x3 :: x4 :: x5 :: x6 :: x7 :: y :: r) 8 x = (x0 :: x1 :: x2 :: x3 :: x4 :: x5 :: x6 :: x7 :: x :: r : DEnv) := id rfl
@[simp] theorem e_frz8 {x0 x1 x2 x3 x4 x5 x6 x7 : DE} {ds : List D} {r : DEnv} : frz 8 (x0 :: x1 :: x2 :: x3 :: x4 :: x5 :: x6 :: x7 :: .ow ds :: r) = (x0 :: x1 :: x2 :: x3 :: x4 :: x5 :: x6 :: x7 :: .pu (.lst ds) :: r : DEnv) := id rfl
@[simp] theorem e_app8 {x0 x1 x2 x3 x4 x5 x6 x7 : DE} {ds : List D} {r : DEnv} {m : ME} : mApp 8 m (x0 :: x1 :: x2 :: x3 :: x4 :: x5 :: x6 :: x7 :: .ow ds :: r) = (m (x0 :: x1 :: x2 :: x3 :: x4 :: x5 :: x6 :: x7 :: .ow ds :: r)).bind fun d => if ds.length < big then some (.nx (x0 :: x1 :: x2 :: x3 :: x4 :: x5 :: x6 :: x7 :: .ow (ds ++ [d]) :: r)) else none := id rfl
@[simp] theorem e_var9 {x0 x1 x2 x3 x4 x5 x6 x7 x8 : DE} {d : D} {r : DEnv} : mVar 9 (x0 :: x1 :: x2 :: x3 :: x4 :: x5 :: x6 :: x7 :: x8 :: .pu d :: r) = some d := id rfl
@[simp] theorem e_set9 {x0 x1 x2 x3 x4 x5 x6 x7 x8 : DE} {y x : DE} {r : DEnv} : List.set (x0 :: x1 :: x2 :: x3 :: x4 :: x5 :: x6 :: x7 :: x8 :: y :: r) 9 x = (x0 :: x1 :: x2 :: x3 :: x4 :: x5 :: x6 :: x7 :: x8 :: x :: r : DEnv) := id rfl
@[simp] theorem e_frz9 {x0 x1 x2 x3 x4 x5 x6 x7 x8 : DE} {ds : List D} {r : DEnv} : frz 9 (x0 :: x1 :: x2 :: x3 :: x4 :: x5 :: x6 :: x7 :: x8 :: .ow ds :: r) = (x0 :: x1 :: x2 :: x3 :: x4 :: x5 :: x6 :: x7 :: x8 :: .pu (.lst ds) :: r : DEnv) := id rfl
@[simp] theorem e_app9 {x0 x1 x2 x3 x4 x5 x6 x7 x8 : DE} {ds : List D} {r : DEnv} {m : ME} : mApp 9 m (x0 :: x1 :: x2 :: x3 :: x4 :: x5 :: x6 :: x7 :: x8 :: .ow ds :: r) = (m (x0 :: x1 :: x2 :: x3 :: x4 :: x5 :: x6 :: x7 :: x8 :: .ow ds :: r)).bind fun d => if ds.length < big then some (.nx (x0 :: x1 :: x2 :: x3 :: x4 :: x5 :: x6 :: x7 :: x8 :: .ow (ds ++ [d]) :: r)) else none := id rfl
@[simp] theorem e_var10 {x0 x1 x2 x3 x4 x5 x6 x7 x8 x9 : DE} {d : D} {r : DEnv} : mVar 10 (x0 :: x1 :: x2 :: x3 :: x4 :: x5 :: x6 :: x7 :: x8 :: x9 :: .pu d :: r) = some d := id rfl
@[simp] theorem e_set10 {x0 x1 x2 x3 x4 x5 x6 x7 x8 x9 : DE} {y x : DE} {r : DEnv} : List.set (x0 :: x1 :: x2 :: x3 :: x4 :: x5 :: x6 :: x7 :: x8 :: x9 :: y :: r) 10 x = (x0 :: x1 :: x2 :: x3 :: x4 :: x5 :: x6 :: x7 :: x8 :: x9 :: x :: r : DEnv) := id rfl
@[simp] theorem e_frz10 {x0 x1 x2 x3 x4 x5 x6 x7 x8 x9 : DE} {ds : List D} {r : DEnv} : frz 10 (x0 :: x1 :: x2 :: x3 :: x4 :: x5 :: x6 :: x7 :: x8 :: x9 :: .ow ds :: r) = (x0 :: x1 :: x2 :: x3 :: x4 :: x5 :: x6 :: x7 :: x8 :: x9 :: .pu (.lst ds) :: r : DEnv) := id rfl
@[simp] theorem e_app10 {x0 x1 x2 x3 x4 x5 x6 x7 x8 x9 : DE} {ds : List D} {r : DEnv} {m : ME} : mApp 10 m (x0 :: x1 :: x2 :: x3 :: x4 :: x5 :: x6 :: x7 :: x8 :: x9 :: .ow ds :: r) = (m (x0 :: x1 :: x2 :: x3 :: x4 :: x5 :: x6 :: x7 :: x8 :: x9 :: .ow ds :: r)).bind fun d => if ds.length < big then some (.nx (x0 :: x1 :: x2 :: x3 :: x4 :: x5 :: x6 :: x7 :: x8 :: x9 :: .ow (ds ++ [d]) :: r)) else none := id rfl
@[simp] theorem e_var11 {x0 x1 x2 x3 x4 x5 x6 x7 x8 x9 x10 : DE} {d : D} {r : DEnv} : mVar 11 (x0 :: x1 :: x2 :: x3 :: x4 :: x5 :: x6 :: x7 :: x8 :: x9 :: x10 :: .pu d :: r) = some d := id rfl
@[simp] theorem e_set11 {x0 x1 x2 x3 x4 x5 x6 x7 x8 x9 x10 : DE} {y x : DE} {r : DEnv} : List.set (x0 :: x1 :: x2 :: x3 :: x4 :: x5 :: x6 :: x7 :: x8 :: x9 :: x10 :: y :: r) 11 x = (x0 :: x1 :: x2 :: x3 :: x4 :: x5 :: x6 :: x7 :: x8 :: x9 :: x10 :: x :: r : DEnv) := id rfl
@[simp] theorem e_frz11 {x0 x1 x2 x3 x4 x5 x6 x7 x8 x9 x10 : DE} {ds : List D} {r : DEnv} : frz 11 (x0 :: x1 :: x2 :: x3 :: x4 :: x5 :: x6 :: x7 :: x8 :: x9 :: x10 :: .ow ds :: r) = (x0 :: x1 :: x2 :: x3 :: x4 :: x5 :: x6 :: x7 :: x8 :: x9 :: x10 :: .pu (.lst ds) :: r : DEnv) := id rfl
@[simp] theorem e_app11 {x0 x1 x2 x3 x4 x5 x6 x7 x8 x9 x10 : DE} {ds : List D} {r : DEnv} {m : ME} : mApp 11 m (x0 :: x1 :: x2 :: x3 :: x4 :: x5 :: x6 :: x7 :: x8 :: x9 :: x10 :: .ow ds :: r) = (m (x0 :: x1 :: x2 :: x3 :: x4 :: x5 :: x6 :: x7 :: x8 :: x9 :: x10 :: .ow ds :: r)).bind fun d => if ds.length < big then some (.nx (x0 :: x1 :: x2 :: x3 :: x4 :: x5 :: x6 :: x7 :: x8 :: x9 :: x10 :: .ow (ds ++ [d]) :: r)) else none := id rfl
@[simp] theorem e_var12 {x0 x1 x2 x3 x4 x5 x6 x7 x8 x9 x10 x11 : DE} {d : D} {r : DEnv} : mVar 12 (x0 :: x1 :: x2 :: x3 :: x4 :: x5 :: x6 :: x7 :: x8 :: x9 :: x10 :: x11 :: .pu d :: r) = some d := id rfl
@[simp] theorem e_set12 {x0 x1 x2 x3 x4 x5 x6 x7 x8 x9 x10 x11 : DE} {y x : DE} {r : DEnv} : List.set (x0 :: x1 :: x2 :: x3 :: x4 :: x5 :: x6 :: x7 :: x8 :: x9 :: x10 :: x11 :: y :: r) 12 x = (x0 :: x1 :: x2 :: x3 :: x4 :: x5 :: x6 :: x7 :: x8 :: x9 :: x10 :: x11 :: x :: r : DEnv) := id rfl
@[simp] theorem e_frz12 {x0 x1 x2 x3 x4 x5 x6 x7 x8 x9 x10 x11 : DE} {ds : List D} {r : DEnv} : frz 12 (x0 :: x1 :: x2 :: x3 :: x4 :: x5 :: x6 :: x7 :: x8 :: x9 :: x10 :: x11 :: .ow ds :: r) = (x0 :: x1 :: x2 :: x3 :: x4 :: x5 :: x6 :: x7 :: x8 :: x9 :: x10 :: x11 :: .pu (.lst ds) :: r : DEnv) := id rfl
@[simp] theorem e_app12 {x0 x1 x2 x3 x4 x5 x6 x7 x8 x9 x10 x11 : DE} {ds : List D} {r : DEnv} {m : ME} : mApp 12 m (x0 :: x1 :: x2 :: x3 :: x4 :: x5 :: x6 :: x7 :: x8 :: x9 :: x10 :: x11 :: .ow ds :: r) = (m (x0 :: x1 :: x2 :: x3 :: x4 :: x5 :: x6 :: x7 :: x8 :: x9 :: x10 :: x11 :: .ow ds :: r)).bind fun d => if ds.length < big then some (.nx (x0 :: x1 :: x2 :: x3 :: x4 :: x5 :: x6 :: x7 :: x8 :: x9 :: x10 :: x11 :: .ow (ds ++ [d]) :: r)) else none := id rfl
@[simp] theorem e_var13 {x0 x1 x2 x3 x4 x5 x6 x7 x8 x9 x10 x11 x12 : DE} {d : D} {r : DEnv} : mVar 13 (x0 :: x1 :: x2 :: x3 :: x4 :: x5 :: x6 :: x7 :: x8 :: x9 :: x10 :: x11 :: x12 :: .pu d :: r) = some d := id rfl
@[simp] theorem e_set13 {x0 x1 x2 x3 x4 x5 x6 x7 x8 x9 x10 x11 x12 : DE} {y x : DE} {r : DEnv} : List.set (x0 :: x1 :: x2 :: x3 :: x4 :: x5 :: x6 :: x7 :: x8 :: x9 :: x10 :: x11 :: x12 :: y :: r) 13 x = (x0 :: x1 :: x2 :: x3 :: x4 :: x5 :: x6 :: x7 :: x8 :: x9 :: x10 :: x11 :: x12 :: x :: r : DEnv) := id rfl
@[simp] theorem e_frz13 {x0 x1 x2 x3 x4 x5 x6 x7 x8 x9 x10 x11 x12 : DE} {ds : List D} {r : DEnv} : frz 13 (x0 :: x1 :: x2 :: x3 :: x4 :: x5 :: x6 :: x7 :: x8 :: x9 :: x10 :: x11 :: x12 :: .ow ds :: r) = (x0 :: x1 :: x2 :: x3 :: x4 :: x5 :: x6 :: x7 :: x8 :: x9 :: x10 :: x11 :: x12 :: .pu (.lst ds) :: r : DEnv) := id rfl
@[simp] theorem e_app13 {x0 x1 x2 x3 x4 x5 x6 x7 x8 x9 x10 x11 x12 : DE} {ds : List D} {r : DEnv} {m : ME} : mApp 13 m (x0 :: x1 :: x2 :: x3 :: x4 :: x5 :: x6 :: x7 :: x8 :: x9 :: x10 :: x11 :: x12 :: .ow ds :: r) = (m (x0 :: x1 :: x2 :: x3 :: x4 :: x5 :: x6 :: x7 :: x8 :: x9 :: x10 :: x11 :: x12 :: .ow ds :: r)).bind fun d => if ds.length < big then some (.nx (x0 :: x1 :: x2 :: x3 :: x4 :: x5 :: x6 :: x7 :: x8 :: x9 :: x10 :: x11 :: x12 :: .ow (ds ++ [d]) :: r)) else none := id rfl
@[simp] theorem e_var14 {x0 x1 x2 x3 x4 x5 x6 x7 x8 x9 x10 x11 x12 x13 : DE} {d : D} {r : DEnv} : mVar 14 (x0 :: x1 :: x2 :: x3 :: x4 :: x5 :: x6 :: x7 :: x8 :: x9 :: x10 :: x11 :: x12 :: x13 :: .pu d :: r) = some d := id rfl
@[simp] theorem e_set14 {x0 x1 x2 x3 x4 x5 x6 x7 x8 x9 x10 x11 x12 x13 : DE} {y x : DE} {r : DEnv} : List.set (x0 :: x1 :: x2 :: x3 :: x4 :: x5 :: x6 :: x7 :: x8 :: x9 :: x10 :: x11 :: x12 :: x13 :: y :: r) 14 x = (x0 :: x1 :: x2 :: x3 :: x4 :: x5 :: x6 :: x7 :: x8 :: x9 :: x10 :: x11 :: x12 :: x13 :: x :: r : DEnv) := id rfl
@[simp] theorem e_frz14 {x0 x1 x2 x3 x4 x5 x6 x7 x8 x9 x10 x11 x12 x13 : DE} {ds : List D} {r : DEnv} : frz 14 (x0 :: x1 :: x2 :: x3 :: x4 :: x5 :: x6 :: x7 :: x8 :: x9 :: x10 :: x11 :: x12 :: x13 :: .ow ds :: r) = (x0 :: x1 :: x2 :: x3 :: x4 :: x5 :: x6 :: x7 :: x8 :: x9 :: x10 :: x11 :: x12 :: x13 :: .pu (.lst ds) :: r : DEnv) := id rfl
@[simp] theorem e_app14 {x0 x1 x2 x3 x4 x5 x6 x7 x8 x9 x10 x11 x12 x13 : DE} {ds : List D} {r : DEnv} {m : ME} : mApp 14 m (x0 :: x1 :: x2 :: x3 :: x4 :: x5 :: x6 :: x7 :: x8 :: x9 :: x10 :: x11 :: x12 :: x13 :: .ow ds :: r) = (m (x0 :: x1 :: x2 :: x3 :: x4 :: x5 :: x6 :: x7 :: x8 :: x9 :: x10 :: x11 :: x12 :: x13 :: .ow ds :: r)).bind fun d => if ds.length < big then some (.nx (x0 :: x1 :: x2 :: x3 :: x4 :: x5 :: x6 :: x7 :: x8 :: x9 :: x10 :: x11 :: x12 :: x13 :: .ow (ds ++ [d]) :: r)) else none := id rfl
@[simp] theorem e_C {v : V} {ρ : DEnv} : mC v ρ = some (.val v) := id rfl
@[simp] theorem e_K {d : D} {ρ : DEnv} : mK d ρ = some d := id rfl
@[simp] theorem e_op {f : D → D → Option D} {a b : ME} {ρ : DEnv} : mOp f a b ρ = (a ρ).bind fun x => (b ρ).bind fun y => f x y := id rfl
@[simp] theorem e_un {f : D → Option D} {a : ME} {ρ : DEnv} : mUn f a ρ = (a ρ).bind f := id rfl
@[simp] theorem e_test {m : ME} {ρ : DEnv} : mTest m ρ = (m ρ).bind asB := id rfl
@[simp] theorem e_tru {m : ME} {ρ : DEnv} : mTru m ρ = (m ρ).bind truD := id rfl
@[simp] theorem e_and {a b : MT} {ρ : DEnv} : mAnd a b ρ = (a ρ).bind fun x => if x = true then b ρ else some false := id rfl
@[simp] theorem e_or {a b : MT} {ρ : DEnv} : mOr a b ρ = (a ρ).bind fun x => if x = true then some true else b ρ := id rfl
@[simp] theorem e_not {a : MT} {ρ : DEnv} : mNot a ρ = (a ρ).map (!·) := id rfl
@[simp] theorem e_orT {a b : ME} {ρ : DEnv} : mOrT a b ρ = (a ρ).bind fun x => (truD x).bind fun k => if k = true then some x else b ρ := id rfl
@[simp] theorem e_andT {a b : ME} {ρ : DEnv} : mAndT a b ρ = (a ρ).bind fun x => (truD x).bind fun k => if k = true then b ρ else some x := id rfl
@[simp] theorem e_notT {a : ME} {ρ : DEnv} : mNotT a ρ = (a ρ).bind fun x => (truD x).map fun k => .bl (!k) := id rfl
@[simp] theorem e_if {t : MT} {a b : ME} {ρ : DEnv} : mIf t a b ρ = (t ρ).bind fun x => if x = true then a ρ else b ρ := id rfl
@[simp] theorem e_chain {f g : D → D → Option D} {a b c : ME} {ρ : DEnv} : mChain f g a b c ρ = (a ρ).bind fun x => (b ρ).bind fun y => ((f x y).bind asB).bind fun k => if k = true then (c ρ).bind fun z => g y z else some (.val (.bl false)) := id rfl
@[simp] theorem e_nil {ρ : DEnv} : mNil ρ = some [] := id rfl
@[simp] theorem e_cons {m : ME} {r : MA} {ρ : DEnv} : mCons m r ρ = (m ρ).bind fun d => (r ρ).map (d :: ·) := id rfl
@[simp] theorem e_call {f : List D → Option D} {m : MA} {ρ : DEnv} : mCall f m ρ = (m ρ).bind f := id rfl
@[simp] theorem e_meth {f : D → List D → Option D} {o : ME} {m : MA} {ρ : DEnv} : mMeth f o m ρ = (o ρ).bind fun a => (m ρ).bind fun as => f a as := id rfl
@[simp] theorem e_noPart {ρ : DEnv} : mNoPart ρ = some none := id rfl
@[simp] theorem e_part {m : ME} {ρ : DEnv} : mPart m ρ = ((m ρ).bind asI).map some := id rfl
@[simp] theorem e_sl {f : D → Option Int → Option Int → Option D} {m : ME} {lo hi : MO} {ρ : DEnv} : mSl f m lo hi ρ = (m ρ).bind fun a => (lo ρ).bind fun l => (hi ρ).bind fun u => f a l u := id rfl
@[simp] theorem e_few {m : MA} {ρ : DEnv} : few m ρ = (m ρ).bind fun ds => if ds.length ≤ 16777216 then some ds else none := id rfl
@[simp] theorem e_lst {m : MA} {ρ : DEnv} : mLst m ρ = (m ρ).map .lst := id rfl
@[simp] theorem e_tup {m : MA} {ρ : DEnv} : mTup m ρ = (few m ρ).map .tup := id rfl
@[simp] theorem e_next {ρ : DEnv} : mNext ρ = some (.nx ρ) := id rfl
@[simp] theorem e_seq {m n : MS} {ρ : DEnv} : mSeq m n ρ = (m ρ).bind fun o => match o with
  | .nx ρ' => n ρ'
  | o => some o := id rfl
@[simp] theorem e_asg {i : Nat} {m : ME} {ρ : DEnv} : mAsg i m ρ = (m ρ).map fun d => .nx (ρ.set i (.pu d)) := id rfl
@[simp] theorem e_asgO {i : Nat} {m : MA} {ρ : DEnv} : mAsgO i m ρ = (m ρ).map fun ds => .nx (ρ.set i (.ow ds)) := id rfl
@[simp] theorem e_asgG {f : D → DEnv → Option DEnv} {m : ME} {ρ : DEnv} : mAsgG f m ρ = (m ρ).bind fun d => (f d ρ).map .nx := id rfl
@[simp] theorem e_ret {m : ME} {ρ : DEnv} : mRet m ρ = (m ρ).map .rt := id rfl
@[simp] theorem e_ifS {t : MT} {a b : MS} {ρ : DEnv} : mIfS t a b ρ = (t ρ).bind fun x => if x = true then a ρ else b ρ := id rfl
@[simp] theorem e_par {i j : Nat} {m : MA} {ρ : DEnv} : mPar i j m ρ = (m ρ).bind fun ds => match ds with
  | [a, b] => some (.nx ((ρ.set i (.pu a)).set j (.pu b)))
  | _ => none := id rfl
@[simp] theorem e_for {mi : MA} {f : D → DEnv → Option DEnv} {b : MS} {ρ : DEnv} : mFor mi f b ρ = (mi ρ).bind fun ds => forL f b ds ρ := id rfl
@[simp] theorem e_items {m : ME} {ρ : DEnv} : mItems m ρ = (m ρ).bind itemsD := id rfl
@[simp] theorem e_itemsD_lst {ds : List D} : itemsD (.lst ds) = some ds := id rfl
@[simp] theorem e_itemsD_tup {ds : List D} : itemsD (.tup ds) = some ds := id rfl
@[simp] theorem e_itemsD_str {z : Str} : itemsD (.val (.str z)) = some (signsD z) := id rfl
@[simp] theorem e_lc {mi : MA} {f : D → DEnv → Option DEnv} {c : MT} {e : ME} {vs : List Nat} {ρ : DEnv} : mLc mi f c e vs ρ = (mi ρ).bind fun ds => if ds.length ≤ 10000000 then lcL f c e (wipeD ρ vs) ds else none := id rfl
@[simp] theorem e_wipe0 {ρ : DEnv} : wipeD ρ [] = ρ := id rfl
@[simp] theorem e_wipe1 {ρ : DEnv} {v : Nat} {vs : List Nat} : wipeD ρ (v :: vs) = (wipeD ρ vs).set v .un := id rfl
@[simp] theorem e_asB {b : Bool} : asB (.val (.bl b)) = some b := id rfl
@[simp] theorem e_asI {i : Int} : asI (.val (.int i)) = some i := id rfl
@[simp] theorem e_truB {b : Bool} : truD (.val (.bl b)) = some b := id rfl
@[simp] theorem e_truN : truD (.val .non) = some false := id rfl
@[simp] theorem e_truL {ds : List D} : truD (.lst ds) = some (!ds.isEmpty) := id rfl
@[simp] theorem e_truT {ds : List D} : truD (.tup ds) = some (!ds.isEmpty) := id rfl
@[simp] theorem e_ok {m : ME} {ρ : DEnv} : mOk m ρ = (m ρ).map .ok := id rfl
@[simp] theorem e_callX {F : List D → Option Res} {m : MA} {ρ : DEnv} : mCallX F m ρ = (m ρ).bind F := id rfl
@[simp] theorem e_lenL {ds : List D} : lenD [.lst ds] = some (.int ds.length) := id rfl
@[simp] theorem e_lenT {ds : List D} : lenD [.tup ds] = some (.int ds.length) := id rfl
@[simp] theorem e_isN {d : D} : isND d (.val .non) = some (.bl (isNonD d)) := by cases d with
  | val v => cases v <;> rfl
  | lst ds => rfl
  | tup ds => rfl
@[simp] theorem e_notN {d : D} : notND d (.val .non) = some (.bl (!isNonD d)) := by cases d with
  | val v => cases v <;> rfl
  | lst ds => rfl
  | tup ds => rfl
@[simp] theorem e_tupleL {ds : List D} : tupleD [.lst ds] = some (.tup ds) := id rfl
@[simp] theorem e_tupleT {ds : List D} : tupleD [.tup ds] = some (.tup ds) := id rfl
@[simp] theorem e_gN {i : Nat} {d : D} {ρ : DEnv} : gN i d ρ = some (ρ.set i (.pu d)) := id rfl
@[simp] theorem e_yes {ρ : DEnv} : mYes ρ = some true := id rfl

theorem F_of {N : List Str} {n : Nat} {m : MS} {ds : List D} {d : D} (hn : ds.length = n) (h : m (startD N ds) = some (.rt d)) : runF N n m ds = some d := by
  unfold runF
  rw [if_pos hn, h]
theorem X_of {N : List Str} {n : Nat} {m : MS} {ds : List D} {d : D} (hn : ds.length = n) (h : m (startD N ds) = some (.rt d)) : runX N n m ds = some (.ok d) := by
  unfold runX
  rw [if_pos hn, h]
theorem X_nx {N : List Str} {n : Nat} {m : MS} {ds : List D} {ρ : DEnv} (hn : ds.length = n) (h : m (startD N ds) = some (.nx ρ)) : runX N n m ds = some (.ok .non) := by
  unfold runX
  rw [if_pos hn, h]
theorem X_ex {N : List Str} {n : Nat} {m : MS} {ds : List D} {C : Addr} {f : Str} {x : D} {ρ : DEnv} (hn : ds.length = n) (h : m (startD N ds) = some (.ex C f x ρ)) : runX N n m ds = some (.ex C f x) := by
  unfold runX
  rw [if_pos hn, h]
/-- a comprehension with a test -/
theorem lc_gen {set : D → DEnv → Option DEnv} {cond : MT} {elt : ME} {ρ : DEnv} {p : D → Bool} {g : D → D} : ∀ {ds : List D}, (∀ d ∈ ds, ∃ ρ1, set d ρ = some ρ1 ∧ cond ρ1 = some (p d) ∧ (p d = true → elt ρ1 = some (g d))) → lcL set cond elt ρ ds = some ((ds.filter p).map g)
  | [], _ => rfl
  | d :: r, h => by
    have ih := lc_gen (ds := r) fun x hx => h x (List.mem_cons_of_mem _ hx)
    obtain ⟨ρ1, h1, h2, h3⟩ := h d List.mem_cons_self
    show ((set d ρ).bind fun ρ1 => (cond ρ1).bind fun b => if b = true then (elt ρ1).bind fun y => (lcL set cond elt ρ r).map (y :: ·) else lcL set cond elt ρ r) = _
    rw [h1, Option.bind_some, h2, Option.bind_some, ih]
    cases hp : p d with
    | true => rw [if_pos rfl, h3 hp, List.filter_cons_of_pos hp]; rfl
    | false => rw [if_neg Bool.false_ne_true, List.filter_cons_of_neg (by rw [hp]; exact Bool.false_ne_true)]
/-- a comprehension without -/
theorem lc_map {set : D → DEnv → Option DEnv} {elt : ME} {ρ : DEnv} {g : D → D} {ds : List D} (h : ∀ d ∈ ds, ∃ ρ1, set d ρ = some ρ1 ∧ elt ρ1 = some (g d)) : lcL set mYes elt ρ ds = some (ds.map g) := by
  have := lc_gen (set := set) (cond := mYes) (elt := elt) (ρ := ρ) (p := fun _ => true) (g := g) (ds := ds) fun d hd => by
    obtain ⟨ρ1, h1, h2⟩ := h d hd
    exact ⟨ρ1, h1, rfl, fun _ => h2⟩
  rw [this, List.filter_eq_self.mpr fun _ _ => rfl]
/-- a loop that runs through -/
theorem for_inv {set : D → DEnv → Option DEnv} {body : MS} (P : List D → DEnv → Prop) : ∀ {ds : List D} {ρ : DEnv}, P ds ρ → (∀ d r ρ, P (d :: r) ρ → ∃ ρ1 ρ2, set d ρ = some ρ1 ∧ (body ρ1 = some (.nx ρ2) ∨ body ρ1 = some (.ct ρ2)) ∧ P r ρ2) → ∃ ρ', forL set body ds ρ = some (.nx ρ') ∧ P [] ρ'
  | [], ρ, h, _ => ⟨ρ, rfl, h⟩
  | d :: r, ρ, h, hs => by
    obtain ⟨ρ1, ρ2, h1, h2, h3⟩ := hs d r ρ h
    obtain ⟨ρ', h4, h5⟩ := for_inv P (ds := r) h3 hs
    refine ⟨ρ', ?_, h5⟩
    show ((set d ρ).bind fun ρ1 => (body ρ1).bind fun o => match o with
      | .nx ρ' => forL set body r ρ'
      | .ct ρ' => forL set body r ρ'
      | .bk ρ' => some (.nx ρ')
      | o => some o) = _
    rw [h1, Option.bind_some]
    rcases h2 with h2 | h2 <;> rw [h2, Option.bind_some] <;> exact h4
/-- a loop whose turns may return -/
theorem for_cons_nx {set : D → DEnv → Option DEnv} {body : MS} {d : D} {r : List D} {ρ ρ1 ρ2 : DEnv} (h1 : set d ρ = some ρ1) (h2 : body ρ1 = some (.nx ρ2)) : forL set body (d :: r) ρ = forL set body r ρ2 := by
  show ((set d ρ).bind fun ρ1 => (body ρ1).bind _) = _
  rw [h1, Option.bind_some, h2]
  rfl
theorem for_cons_rt {set : D → DEnv → Option DEnv} {body : MS} {d : D} {r : List D} {ρ ρ1 : DEnv} {x : D} (h1 : set d ρ = some ρ1) (h2 : body ρ1 = some (.rt x)) : forL set body (d :: r) ρ = some (.rt x) := by
  show ((set d ρ).bind fun ρ1 => (body ρ1).bind _) = _
  rw [h1, Option.bind_some, h2]
  rfl
theorem for_cons_ex {set : D → DEnv → Option DEnv} {body : MS} {d : D} {r : List D} {ρ ρ1 ρ2 : DEnv} {C : Addr} {f : Str} {x : D} (h1 : set d ρ = some ρ1) (h2 : body ρ1 = some (.ex C f x ρ2)) : forL set body (d :: r) ρ = some (.ex C f x ρ2) := by
  show ((set d ρ).bind fun ρ1 => (body ρ1).bind _) = _
  rw [h1, Option.bind_some, h2]
  rfl
theorem for_nil {set : D → DEnv → Option DEnv} {body : MS} {ρ : DEnv} : forL set body [] ρ = some (.nx ρ) := rfl
theorem big_eq : big = 16777216 := rfl
/-! ### plain data compared -/
theorem beq_dec {α : Type} [BEq α] [LawfulBEq α] [DecidableEq α] (x y : α) : (x == y) = decide (x = y) := by
  rw [Bool.eq_iff_iff]
  simp
@[simp] theorem pd_str {z : Str} : pd (.val (.str z)) = some (.str z) := id rfl
@[simp] theorem pd_int {i : Int} : pd (.val (.int i)) = some (.int i) := id rfl
@[simp] theorem pd_bl {b : Bool} : pd (.val (.bl b)) = some (.bool b) := id rfl
@[simp] theorem pd_non : pd (.val .non) = some .none := id rfl
@[simp] theorem eqP_str (x y : Str) : eqP (.val (.str x)) (.val (.str y)) = some (.bl (decide (x = y))) := by
  show (if fitP (.str x) (.str y) = true then some (D.bl (PyData.eqv (.str x) (.str y))) else none) = _
  rw [if_pos (by rfl)]
  simp only [PyData.eqv, beq_dec]
@[simp] theorem neP_str (x y : Str) : neP (.val (.str x)) (.val (.str y)) = some (.bl (!decide (x = y))) := by
  show (if fitP (.str x) (.str y) = true then some (D.bl (!PyData.eqv (.str x) (.str y))) else none) = _
  rw [if_pos (by rfl)]
  simp only [PyData.eqv, beq_dec]
@[simp] theorem eqP_int (x y : Int) : eqP (.val (.int x)) (.val (.int y)) = some (.bl (decide (x = y))) := by
  show (if fitP (.int x) (.int y) = true then some (D.bl (PyData.eqv (.int x) (.int y))) else none) = _
  rw [if_pos (by rfl)]
  simp only [PyData.eqv, beq_dec]
@[simp] theorem neP_int (x y : Int) : neP (.val (.int x)) (.val (.int y)) = some (.bl (!decide (x = y))) := by
  show (if fitP (.int x) (.int y) = true then some (D.bl (!PyData.eqv (.int x) (.int y))) else none) = _
  rw [if_pos (by rfl)]
  simp only [PyData.eqv, beq_dec]
@[simp] theorem ltP_int (x y : Int) : ltP (.val (.int x)) (.val (.int y)) = some (.bl (decide (x < y))) := by
  show (if ltC (.int x) (.int y) = true then some (D.bl (PySem.W.dataLt (.int x) (.int y))) else none) = _
  rw [if_pos (by rfl), PySem.W.dataLt_int]
@[simp] theorem gtP_int (x y : Int) : gtP (.val (.int x)) (.val (.int y)) = some (.bl (decide (y < x))) := by
  show (if ltC (.int x) (.int y) = true then some (D.bl (PySem.W.dataLt (.int y) (.int x))) else none) = _
  rw [if_pos (by rfl), PySem.W.dataLt_int]
@[simp] theorem leP_int (x y : Int) : leP (.val (.int x)) (.val (.int y)) = some (.bl (decide (x ≤ y))) := by
  show (if ltC (.int x) (.int y) = true then some (D.bl (!PySem.W.dataLt (.int y) (.int x))) else none) = _
  rw [if_pos (by rfl), PySem.W.dataLt_int]
  congr 3
  rw [Bool.eq_iff_iff]
  simp
@[simp] theorem geP_int (x y : Int) : geP (.val (.int x)) (.val (.int y)) = some (.bl (decide (y ≤ x))) := by
  show (if ltC (.int x) (.int y) = true then some (D.bl (!PySem.W.dataLt (.int x) (.int y))) else none) = _
  rw [if_pos (by rfl), PySem.W.dataLt_int]
  congr 3
  rw [Bool.eq_iff_iff]
  simp
end KN

set_option Elab.async false
set_option linter.all false
set_option maxRecDepth 100000
set_option maxHeartbeats 4000000
namespace KN
open PySem PySem.Spec PyProof.Rows L2 Evl DD
/-! N1: words and numbers -/
abbrev tl (z : Str) : List Nat := z.cps.toList
def isDig (c : Nat) : Bool := decide (48 ≤ c) && decide (c ≤ 57)
def isLet (c : Nat) : Bool := decide (97 ≤ c) && decide (c ≤ 122)
def zeroAhead (z : Str) : Bool := decide (1 < z.length) && decide ((tl z).head? = some 48)
def isNum (z : Str) : Bool := decide (1 ≤ z.length) && decide (z.length ≤ 6) && (tl z).all isDig && !zeroAhead z
def numW (z : Str) : Option Int := if isNum z = true then intText? z else none
def optD {β : Type} (t : β → D) : Option β → D
  | none => .non
  | some b => t b
theorem len_tl (z : Str) : z.length = (tl z).length := TL.len_tl z
theorem isDig_mem (c : Nat) : decide (c ∈ tl "0123456789") = isDig c := by
  show decide (c ∈ [48, 49, 50, 51, 52, 53, 54, 55, 56, 57]) = _
  unfold isDig
  rw [Bool.eq_iff_iff]
  simp only [List.mem_cons, List.not_mem_nil, or_false, decide_eq_true_eq, Bool.and_eq_true]
  omega
theorem isLet_mem (c : Nat) : decide (c ∈ tl "abcdefghijklmnopqrstuvwxyz") = isLet c := by
  show decide (c ∈ [97, 98, 99, 100, 101, 102, 103, 104, 105, 106, 107, 108, 109, 110, 111, 112, 113, 114, 115, 116, 117, 118, 119, 120, 121, 122]) = _
  unfold isLet
  rw [Bool.eq_iff_iff]
  simp only [List.mem_cons, List.not_mem_nil, or_false, decide_eq_true_eq, Bool.and_eq_true]
  omega
theorem one_cps (c : Nat) : (⟨#[c]⟩ : Str).cps.size = 1 := rfl
theorem mem_sign (c : Nat) (L : Str) : memP (.val (.str ⟨#[c]⟩)) (.val (.str L)) = some (decide (c ∈ tl L)) := by
  show (if (⟨#[c]⟩ : Str).cps.size = 1 then some (decide (c ∈ tl L)) else none) = _
  exact if_pos (one_cps c)
theorem inP_sign (c : Nat) (L : Str) : inP (.val (.str ⟨#[c]⟩)) (.val (.str L)) = some (.bl (decide (c ∈ tl L))) := by
  unfold inP
  rw [mem_sign]
  rfl
theorem ninP_sign (c : Nat) (L : Str) : ninP (.val (.str ⟨#[c]⟩)) (.val (.str L)) = some (.bl (!decide (c ∈ tl L))) := by
  unfold ninP
  rw [mem_sign]
  rfl
@[simp] theorem inP_dig (c : Nat) : inP (.val (.str ⟨#[c]⟩)) (.val (.str "0123456789")) = some (.bl (isDig c)) := by rw [inP_sign, isDig_mem]
@[simp] theorem ninP_dig (c : Nat) : ninP (.val (.str ⟨#[c]⟩)) (.val (.str "0123456789")) = some (.bl (!isDig c)) := by rw [ninP_sign, isDig_mem]
@[simp] theorem inP_let (c : Nat) : inP (.val (.str ⟨#[c]⟩)) (.val (.str "abcdefghijklmnopqrstuvwxyz")) = some (.bl (isLet c)) := by rw [inP_sign, isLet_mem]
@[simp] theorem ninP_let (c : Nat) : ninP (.val (.str ⟨#[c]⟩)) (.val (.str "abcdefghijklmnopqrstuvwxyz")) = some (.bl (!isLet c)) := by rw [ninP_sign, isLet_mem]
theorem intText_num {z : Str} (h : isNum z = true) : ∃ i : Int, intText? z = some i := by
  simp only [isNum, Bool.and_eq_true, decide_eq_true_eq] at h
  obtain ⟨⟨⟨h1, h2⟩, h3⟩, _⟩ := h
  refine ⟨_, intText_digits (x := z) (fun c hc => ?_) (fun e => ?_) (by omega)⟩
  · have := List.all_eq_true.mp h3 c hc
    simpa [isDig] using this
  · rw [len_tl, show tl z = [] from e] at h1
    simp at h1
@[simp] theorem signs_len (z : Str) : (signsD z).length = z.length := by simp [signsD, Str.length]
/-- the tests of a text's signs -/
theorem lc_signs {elt : ME} {ρ : DEnv} {i : Nat} {g : Nat → D} (z : Str) (h : ∀ c, elt (ρ.set i (.pu (.str ⟨#[c]⟩))) = some (g c)) : lcL (gN i) mYes elt ρ (signsD z) = some ((tl z).map g) := by
  unfold signsD
  have := lc_map (set := gN i) (elt := elt) (ρ := ρ) (g := fun d => match d with
    | .val (.str s) => g (s.cps.getD 0 0)
    | _ => .non) (ds := (tl z).map fun c => D.str ⟨#[c]⟩) fun d hd => by
    obtain ⟨c, _, rfl⟩ := List.mem_map.mp hd
    exact ⟨_, rfl, h c⟩
  rw [this, List.map_map]
  rfl
/-- the signs that a test keeps -/
theorem lc_signsIf {cond : MT} {elt : ME} {ρ : DEnv} {i : Nat} {p : Nat → Bool} (z : Str) (h : ∀ c, cond (ρ.set i (.pu (.str ⟨#[c]⟩))) = some (p c)) (h2 : ∀ c, elt (ρ.set i (.pu (.str ⟨#[c]⟩))) = some (.str ⟨#[c]⟩)) :
    lcL (gN i) cond elt ρ (signsD z) = some (((tl z).filter p).map fun c => D.str ⟨#[c]⟩) := by
  unfold signsD
  have := lc_gen (set := gN i) (cond := cond) (elt := elt) (ρ := ρ) (p := fun d => match d with
    | .val (.str s) => p (s.cps.getD 0 0)
    | _ => false) (g := id) (ds := (tl z).map fun c => D.str ⟨#[c]⟩) fun d hd => by
    obtain ⟨c, _, rfl⟩ := List.mem_map.mp hd
    exact ⟨_, rfl, h c, fun _ => h2 c⟩
  rw [this, List.map_id, List.filter_map]
  rfl
theorem bls_map {α : Type} (f : α → Bool) : ∀ l : List α, blsD (l.map fun c => D.bl (f c)) = some (l.map f)
  | [] => rfl
  | c :: l => by simp [blsD, bls_map f l]
theorem allD_map {α : Type} (f : α → Bool) (l : List α) : allD [.lst (l.map fun c => D.bl (f c))] = some (.bl (l.all f)) := by
  simp only [allD, bls_map, Option.map_some]
  congr 2
  rw [List.all_map]
  rfl
theorem pds_strs : ∀ zs : List Str, pds (zs.map D.str) = some (zs.map PyData.str)
  | [] => rfl
  | z :: zs => by simp [pds, pds_strs zs]
theorem depth_strs : ∀ zs : List Str, PyData.depthAll (zs.map PyData.str) = 0
  | [] => rfl
  | z :: zs => by simp [PyData.depthAll, PyData.depth, depth_strs zs]
theorem eqP_nil {zs : List D} {ps : List PyData} (h : pds zs = some ps) : eqP (.lst zs) (.lst []) = some (.bl zs.isEmpty) := by
  have e : eqP (.lst zs) (.lst []) = (pd (.lst zs)).bind fun p => if fitP p (.list []) = true then some (D.bl (PyData.eqv p (.list []))) else none := rfl
  rw [e]
  simp only [pd, h, Option.map_some, Option.bind_some]
  rw [if_pos (by simp [fitP, PyData.depth, PyData.depthAll])]
  cases zs with
  | nil =>
    simp only [pds, Option.some.injEq] at h
    subst h
    rfl
  | cons d r =>
    simp only [pds, Option.bind_eq_some_iff, Option.map_eq_some_iff] at h
    obtain ⟨p, _, qs, _, rfl⟩ := h
    rfl
theorem neP_nil {zs : List D} {ps : List PyData} (h : pds zs = some ps) : neP (.lst zs) (.lst []) = some (.bl (!zs.isEmpty)) := by
  have e : neP (.lst zs) (.lst []) = (pd (.lst zs)).bind fun p => if fitP p (.list []) = true then some (D.bl (!PyData.eqv p (.list []))) else none := rfl
  rw [e]
  simp only [pd, h, Option.map_some, Option.bind_some]
  rw [if_pos (by simp [fitP, PyData.depth, PyData.depthAll])]
  cases zs with
  | nil =>
    simp only [pds, Option.some.injEq] at h
    subst h
    rfl
  | cons d r =>
    simp only [pds, Option.bind_eq_some_iff, Option.map_eq_some_iff] at h
    obtain ⟨p, _, qs, _, rfl⟩ := h
    rfl
theorem signs_bad (l : List Nat) (p : Nat → Bool) : ((l.filter fun c => !p c).map fun c => D.str ⟨#[c]⟩).isEmpty = l.all p := by
  rw [List.isEmpty_map]
  induction l with
  | nil => rfl
  | cons c l ih =>
    cases h : p c
    · simp [h]
    · simpa [h] using ih
theorem pds_signs (l : List Nat) : pds (l.map fun c => D.str ⟨#[c]⟩) = some (l.map fun c => PyData.str ⟨#[c]⟩) := by
  have := pds_strs (l.map fun c => (⟨#[c]⟩ : Str))
  rw [List.map_map, List.map_map] at this
  exact this
theorem lenD_str {z : Str} (hb : z.length ≤ big) : lenD [.val (.str z)] = some (.int (z.length : Int)) := if_pos hb
theorem intF_str {z : Str} (hb : z.length ≤ 640) : intF [.val (.str z)] = (intText? z).map .int := if_pos hb
theorem one_eq (c d : Nat) : ((⟨#[c]⟩ : Str) = ⟨#[d]⟩) ↔ c = d := by simp
theorem zero_str : ("0" : Str) = ⟨#[48]⟩ := by decide
theorem head_str {z : Str} (h : 1 < z.length) (hb : z.length ≤ big) : ∃ c, (tl z).head? = some c ∧ ixD (.val (.str z)) (.val (.int 0)) = some (.val (.str ⟨#[c]⟩)) := by
  have hl : 1 < (tl z).length := by rw [← len_tl]; exact h
  have : ∃ c r, tl z = c :: r := by
    cases e : tl z with
    | nil => rw [e] at hl; simp at hl
    | cons c r => exact ⟨c, r, rfl⟩
  obtain ⟨c, r, e⟩ := this
  refine ⟨c, by rw [e]; rfl, ?_⟩
  show (if z.length ≤ big then (atI (tl z) 0).map fun c => D.str ⟨#[c]⟩ else none) = _
  rw [if_pos hb, e]
  unfold atI ixN
  simp
theorem zero_test {z : Str} (hb : z.length ≤ big) (h : 1 < z.length) : (ixD (.val (.str z)) (.val (.int 0))).bind (fun x => (eqP x (.val (.str "0"))).bind asB) = some (decide ((tl z).head? = some 48)) := by
  obtain ⟨c, h1, h2⟩ := head_str h hb
  rw [h2, h1, Option.bind_some, eqP_str, Option.bind_some, e_asB]
  congr 1
  rw [Bool.eq_iff_iff, decide_eq_true_eq, decide_eq_true_eq, zero_str, one_eq]
  simp
/-- number_of -/
theorem F_number_str {z : Str} (hb : z.length ≤ big) : F_number_of [.str z] = some (optD D.int (numW z)) := by
  refine F_of rfl ?_
  show m_number_of [.pu (.str z), .un] = _
  unfold m_number_of
  have e1 : lcL (gN 1) mYes (mOp inP (mVar 1) (mC (.str "0123456789"))) [.pu (.str z), .un] (signsD z) = some ((tl z).map fun c => D.bl (isDig c)) := lc_signs z fun c => by simp
  by_cases h1 : 1 ≤ z.length
  · by_cases h2 : z.length ≤ 6
    · have i1 : (1 : Int) ≤ (z.length : Int) := by omega
      have i2 : (z.length : Int) ≤ 6 := by omega
      have i3 : z.length ≤ 10000000 := by omega
      cases h3 : (tl z).all isDig with
      | false =>
        have : isNum z = false := by simp [isNum, h3]
        simp [lenD_str hb, i1, i2, i3, e1, allD_map, h3, numW, this, optD]
      | true =>
        by_cases h4 : 1 < z.length
        · have i4 : (1 : Int) < (z.length : Int) := by omega
          have e2 := zero_test hb h4
          cases h5 : decide ((tl z).head? = some 48) with
          | true =>
            have : isNum z = false := by simp [isNum, zeroAhead, h5, h4]
            rw [h5] at e2
            simp [lenD_str hb, i1, i2, i3, e1, allD_map, h3, i4, e2, numW, this, optD, Option.bind_assoc]
          | false =>
            have : isNum z = true := by simp [isNum, zeroAhead, h5, h1, h2, h3]
            obtain ⟨i, hi⟩ := intText_num this
            rw [h5] at e2
            simp [lenD_str hb, i1, i2, i3, e1, allD_map, h3, i4, e2, numW, this, optD, Option.bind_assoc, hi, intF_str (show z.length ≤ 640 by omega)]
        · have i4 : ¬ (1 : Int) < (z.length : Int) := by omega
          have : isNum z = true := by simp [isNum, zeroAhead, h4, h1, h2, h3]
          obtain ⟨i, hi⟩ := intText_num this
          simp [lenD_str hb, i1, i2, i3, e1, allD_map, h3, i4, numW, this, optD, hi, intF_str (show z.length ≤ 640 by omega)]
    · have i1 : (1 : Int) ≤ (z.length : Int) := by omega
      have i2 : ¬ (z.length : Int) ≤ 6 := by omega
      have : isNum z = false := by simp [isNum, h2]
      simp [lenD_str hb, i1, i2, numW, this, optD]
  · have i1 : ¬ (1 : Int) ≤ (z.length : Int) := by omega
    have : isNum z = false := by simp [isNum, h1]
    simp [lenD_str hb, i1, numW, this, optD]
/-- _law_number -/
theorem F_lawNumber_str {z : Str} (hb : z.length ≤ big) : F__law_number [.str z] = some (optD D.int (numW z)) := by
  refine F_of rfl ?_
  show m__law_number [.pu (.str z), .un] = _
  unfold m__law_number
  have e1 : lcL (gN 1) (mTest (mOp ninP (mVar 1) (mC (.str "0123456789")))) (mVar 1) [.pu (.str z), .un] (signsD z) = some (((tl z).filter fun c => !isDig c).map fun c => D.str ⟨#[c]⟩) := lc_signsIf z (fun c => by simp) (fun c => by simp)
  have e2 := neP_nil (pds_signs ((tl z).filter fun c => !isDig c))
  rw [signs_bad] at e2
  by_cases h0 : z = ""
  · subst h0
    have : isNum "" = false := by decide
    simp [numW, this, optD]
  · have h1 : 1 ≤ z.length := by
      rcases Nat.eq_zero_or_pos z.length with h | h
      · exact absurd (TL.ext_tl (by rw [len_tl] at h; exact List.eq_nil_of_length_eq_zero h)) h0
      · exact h
    by_cases h2 : z.length ≤ 6
    · have i2 : ¬ (6 : Int) < (z.length : Int) := by omega
      have i3 : z.length ≤ 10000000 := by omega
      cases h3 : (tl z).all isDig with
      | false =>
        have : isNum z = false := by simp [isNum, h3]
        rw [h3] at e2
        simp [lenD_str hb, i2, i3, e1, e2, numW, this, optD, h0]
      | true =>
        rw [h3] at e2
        by_cases h4 : 1 < z.length
        · have i4 : (1 : Int) < (z.length : Int) := by omega
          have e5 := zero_test hb h4
          cases h5 : decide ((tl z).head? = some 48) with
          | true =>
            have : isNum z = false := by simp [isNum, zeroAhead, h5, h4]
            rw [h5] at e5
            simp [lenD_str hb, i2, i3, e1, e2, i4, e5, numW, this, optD, h0, Option.bind_assoc]
          | false =>
            have : isNum z = true := by simp [isNum, zeroAhead, h5, h1, h2, h3]
            obtain ⟨i, hi⟩ := intText_num this
            rw [h5] at e5
            simp [lenD_str hb, i2, i3, e1, e2, i4, e5, numW, this, optD, h0, Option.bind_assoc, hi, intF_str (show z.length ≤ 640 by omega)]
        · have i4 : ¬ (1 : Int) < (z.length : Int) := by omega
          have : isNum z = true := by simp [isNum, zeroAhead, h4, h1, h2, h3]
          obtain ⟨i, hi⟩ := intText_num this
          simp [lenD_str hb, i2, i3, e1, e2, i4, numW, this, optD, h0, hi, intF_str (show z.length ≤ 640 by omega)]
    · have i2 : (6 : Int) < (z.length : Int) := by omega
      have : isNum z = false := by simp [isNum, h2]
      simp [lenD_str hb, i2, numW, this, optD, h0]
end KN

set_option Elab.async false
set_option linter.all false
set_option maxRecDepth 100000
set_option maxHeartbeats 4000000
namespace KN
open PySem PySem.Spec PyProof.Rows L2 Evl DD
/-! N2: texts cut; lists of numbers; lists that rise -/
/-! ### cutting -/
theorem pre_one (s c : Nat) (r : List Nat) : TL.pre [s] (c :: r) = (c == s) := by
  simp [TL.pre]
theorem spl_facts (s : Nat) : ∀ (l acc : List Nat), s ∉ acc → 
    (∀ p ∈ TL.spl [s] 0 acc l, s ∉ p ∧ p.length ≤ acc.length + l.length ∧ ∀ c ∈ p, c ∈ acc ∨ c ∈ l) ∧
    ((TL.spl [s] 0 acc l).map fun p => p.length + 1).sum = acc.length + l.length + 1 ∧ 1 ≤ (TL.spl [s] 0 acc l).length
  | [], acc, h => by
    rw [TL.spl_nil]
    refine ⟨fun p hp => ?_, by simp, by simp⟩
    rw [List.mem_singleton] at hp
    subst hp
    exact ⟨h, by simp, fun c hc => .inl hc⟩
  | c :: l, acc, h => by
    by_cases e : c = s
    · have hp : TL.pre [s] (c :: l) = true := by rw [pre_one, e]; simp
      rw [TL.spl_hit hp]
      obtain ⟨h1, h2, h3⟩ := spl_facts s l [] (by simp)
      show (∀ p ∈ acc :: TL.spl [s] 0 [] l, _) ∧ _ ∧ _
      refine ⟨fun p hp => ?_, ?_, by simp⟩
      · rcases List.mem_cons.mp hp with rfl | hp
        · exact ⟨h, by simp, fun c hc => .inl hc⟩
        · obtain ⟨a, b, d⟩ := h1 p hp
          refine ⟨a, by simp at b ⊢; omega, fun x hx => ?_⟩
          rcases d x hx with d | d
          · simp at d
          · exact .inr (by simp [d])
      · show ((acc :: TL.spl [s] 0 [] l).map fun p => p.length + 1).sum = _
        rw [List.map_cons, List.sum_cons, h2]
        simp
        omega
    · have hp : TL.pre [s] (c :: l) = false := by rw [pre_one]; simp [e]
      rw [TL.spl_miss hp]
      obtain ⟨h1, h2, h3⟩ := spl_facts s l (acc ++ [c]) (by simp [h]; exact fun z => e z.symm)
      refine ⟨fun p hp => ?_, ?_, h3⟩
      · obtain ⟨a, b, d⟩ := h1 p hp
        refine ⟨a, by simp at b ⊢; omega, fun x hx => ?_⟩
        rcases d x hx with d | d
        · rcases List.mem_append.mp d with d | d
          · exact .inl d
          · exact .inr (by simp at d; simp [d])
        · exact .inr (by simp [d])
      · rw [h2]
        simp
        omega
theorem cut_tl {z b : Str} {s : Nat} (hb : tl b = [s]) (hs : s < 256) : (Txt.split z b).map tl = TL.spl [s] 0 [] (tl z) := by
  have e := TL.split_spl z b (by show tl b ≠ []; rw [hb]; simp) (TL.kind_ok (by
    have : b.cps.toList.all (· < 256) = true := by
      show (tl b).all (· < 256) = true
      rw [hb]
      simp [hs]
    simpa using this))
  rw [show TL.tl b = [s] from hb] at e
  exact e
/-- length of texts with one more sign each -/
def wt (zs : List Str) : Nat := (zs.map fun z => z.length + 1).sum
theorem cut_facts {z b : Str} {s : Nat} (hb : tl b = [s]) (hs : s < 256) :
    (∀ p ∈ Txt.split z b, s ∉ tl p ∧ p.length ≤ z.length ∧ ∀ c ∈ tl p, c ∈ tl z) ∧ wt (Txt.split z b) = z.length + 1 ∧ 1 ≤ (Txt.split z b).length := by
  have e := cut_tl (z := z) hb hs
  obtain ⟨h1, h2, h3⟩ := spl_facts s (tl z) [] (by simp)
  rw [← e] at h1 h2 h3
  refine ⟨fun p hp => ?_, ?_, by simpa using h3⟩
  · obtain ⟨a, b, d⟩ := h1 (tl p) (List.mem_map_of_mem hp)
    refine ⟨a, by rw [len_tl, len_tl]; simpa using b, fun c hc => ?_⟩
    rcases d c hc with d | d
    · simp at d
    · exact d
  · unfold wt
    rw [List.map_map] at h2
    rw [len_tl z]
    have : (fun z : Str => z.length + 1) = (fun p : List Nat => p.length + 1) ∘ tl := by
      funext x
      simp [len_tl]
    rw [this, h2]
    simp
theorem wt_len : ∀ zs : List Str, zs.length ≤ wt zs
  | [] => by simp [wt]
  | z :: zs => by
    have := wt_len zs
    simp only [wt, List.map_cons, List.sum_cons, List.length_cons] at this ⊢
    omega
theorem cut_len {z b : Str} {s : Nat} (hb : tl b = [s]) (hs : s < 256) : (Txt.split z b).length ≤ z.length + 1 := by
  have := wt_len (Txt.split z b)
  rw [(cut_facts hb hs).2.1] at this
  exact this
theorem split_none {z b : Str} {s : Nat} (hb : tl b = [s]) (hs : s < 256) (h : s ∉ tl z) : Txt.split z b = [z] := by
  have e := cut_tl (z := z) hb hs
  rw [TL.spl_last1 h] at e
  exact TL.map_tl_inj (m := [z]) e
theorem split_many {z b : Str} {s : Nat} (hb : tl b = [s]) (hs : s < 256) (h : s ∈ tl z) : 2 ≤ (Txt.split z b).length := by
  obtain ⟨p, q, hpq, hn⟩ : ∃ p q, tl z = p ++ s :: q ∧ s ∉ p := by
    obtain ⟨p, q, e, hn⟩ := List.eq_append_cons_of_mem h
    exact ⟨p, q, e, hn⟩
  have e := cut_tl (z := z) hb hs
  have e2 : TL.spl [s] 0 [] (tl z) = ([] ++ p) :: TL.spl [s] 0 [] q := by
    rw [hpq]
    exact TL.spl_part1 (S := []) hn
  rw [e2] at e
  have l := congrArg List.length e
  have := (spl_facts s q [] (by simp)).2.2
  simp at l
  omega
theorem splitD_ok {z b : Str} {s : Nat} (hb : tl b = [s]) (hz : z.length + 2 ≤ big) : splitD (.str z) [.str b] = some (.lst ((Txt.split z b).map .str)) := by
  have : (b.length == 0) = false := by
    rw [len_tl, hb]
    rfl
  exact if_pos ⟨this, hz⟩
theorem tl_dot : tl "." = [46] := by decide
theorem tl_sp : tl " " = [32] := by decide
theorem tl_nl : tl "\n" = [10] := by decide

/-! ### all or nothing -/
def allW {α β : Type} (f : α → Option β) : List α → Option (List β)
  | [] => some []
  | z :: r => (f z).bind fun a => (allW f r).map (a :: ·)
theorem any_non {α β : Type} {f : α → Option β} {t : β → D} (ht : ∀ b, isNonD (t b) = false) : ∀ zs : List α, (zs.map fun z => optD t (f z)).any isNonD = (allW f zs).isNone
  | [] => rfl
  | z :: r => by
    have ih := any_non (f := f) ht r
    cases h : f z with
    | none => simp [allW, h, optD, isNonD]
    | some b =>
      show (isNonD (optD t (f z)) || (r.map fun z => optD t (f z)).any isNonD) = ((f z).bind fun a => (allW f r).map (a :: ·)).isNone
      rw [ih, h]
      show (isNonD (t b) || _) = _
      rw [ht]
      simp
theorem all_some {α β : Type} {f : α → Option β} {t : β → D} : ∀ {zs : List α} {bs : List β}, allW f zs = some bs → (zs.map fun z => optD t (f z)) = bs.map t
  | [], bs, h => by cases h; rfl
  | z :: r, bs, h => by
    obtain ⟨b, h1, h⟩ := Option.bind_eq_some_iff.mp h
    obtain ⟨cs, h2, rfl⟩ := Option.map_eq_some_iff.mp h
    rw [List.map_cons, all_some h2, h1]
    rfl
theorem allW_len {α β : Type} {f : α → Option β} : ∀ {zs : List α} {bs : List β}, allW f zs = some bs → bs.length = zs.length
  | [], bs, h => by cases h; rfl
  | z :: r, bs, h => by
    obtain ⟨b, h1, h⟩ := Option.bind_eq_some_iff.mp h
    obtain ⟨cs, h2, rfl⟩ := Option.map_eq_some_iff.mp h
    simp [allW_len h2]
theorem any_nonP : ∀ {ds : List D} {ps : List PyData}, pds ds = some ps → (ps.any fun z => PyData.eqv z .none) = ds.any isNonD
  | [], ps, h => by cases h; rfl
  | d :: ds, ps, h => by
    simp only [pds, Option.bind_eq_some_iff, Option.map_eq_some_iff] at h
    obtain ⟨p, h1, qs, h2, rfl⟩ := h
    have ih := any_nonP h2
    have e : PyData.eqv p .none = isNonD d := by
      cases d with
      | val v => cases v <;> simp only [pd, pdV, Option.some.injEq, reduceCtorEq] at h1 <;> subst h1 <;> rfl
      | lst xs =>
        simp only [pd, Option.map_eq_some_iff] at h1
        obtain ⟨_, _, rfl⟩ := h1
        rfl
      | tup xs =>
        simp only [pd, Option.map_eq_some_iff] at h1
        obtain ⟨_, _, rfl⟩ := h1
        rfl
    rw [List.any_cons, List.any_cons, e, ih]
theorem inP_non {ds : List D} {ps : List PyData} (h : pds ds = some ps) : inP (.val .non) (.lst ds) = some (.bl (ds.any isNonD)) := by
  have e : inP (.val .non) (.lst ds) = (memSeq (.val .non) (.lst ds)).map .bl := rfl
  have e2 : memSeq (.val .non) (.lst ds) = (pds ds).bind fun ps => if min (PyData.depthAll ps) 0 ≤ 180 then some (ps.any fun z => PyData.eqv z .none) else none := rfl
  rw [e, e2, h, Option.bind_some, if_pos (by omega), any_nonP h]
  rfl
theorem pds_map {α : Type} {t : α → D} {u : α → PyData} (h : ∀ a, pd (t a) = some (u a)) : ∀ l : List α, pds (l.map t) = some (l.map u)
  | [] => rfl
  | a :: l => by simp [pds, h, pds_map h l]
def optPd {β : Type} (u : β → PyData) : Option β → PyData
  | none => .none
  | some b => u b
theorem pd_opt {β : Type} {t : β → D} {u : β → PyData} (h : ∀ b, pd (t b) = some (u b)) (o : Option β) : pd (optD t o) = some (optPd u o) := by
  cases o with
  | none => rfl
  | some b => exact h b
theorem inP_opt {α β : Type} {f : α → Option β} {t : β → D} {u : β → PyData} (h : ∀ b, pd (t b) = some (u b)) (ht : ∀ b, isNonD (t b) = false) (zs : List α) : inP (.val .non) (.lst (zs.map fun z => optD t (f z))) = some (.bl (allW f zs).isNone) := by
  rw [inP_non (pds_map (t := fun z => optD t (f z)) (u := fun z => optPd u (f z)) (fun z => pd_opt h (f z)) zs), any_non ht]
@[simp] theorem isNon_int (i : Int) : isNonD (.val (.int i)) = false := id rfl
@[simp] theorem isNon_str (z : Str) : isNonD (.val (.str z)) = false := id rfl
@[simp] theorem isNon_non : isNonD (.val .non) = true := id rfl
@[simp] theorem isNon_lst (ds : List D) : isNonD (.lst ds) = false := id rfl
@[simp] theorem isNon_tup (ds : List D) : isNonD (.tup ds) = false := id rfl
def small (z : Str) : Prop := z.length ≤ 1000000
theorem big_of {z : Str} (h : small z) : z.length + 2 ≤ big := by
  have : z.length ≤ 1000000 := h
  rw [big_eq]
  omega
theorem big_of' {z : Str} (h : small z) : z.length ≤ big := by
  have := big_of h
  omega
theorem small_cut {z b : Str} {s : Nat} (hb : tl b = [s]) (hs : s < 256) (h : small z) : ∀ p ∈ Txt.split z b, small p := fun p hp => Nat.le_trans ((cut_facts hb hs).1 p hp).2.1 h
theorem cut_many {z b : Str} {s : Nat} (hb : tl b = [s]) (hs : s < 256) (h : small z) : (Txt.split z b).length ≤ 1000001 := by
  have h1 := cut_len (z := z) hb hs
  have h2 : z.length ≤ 1000000 := h
  omega
/-- a list made by a call of each item -/
theorem lc_call {α : Type} {ρ : DEnv} {k : Nat} {F : List D → Option D} {t : α → D} {g : α → D} (hk : ∀ d, mVar k (ρ.set k (.pu d)) = some d) {l : List α} (h : ∀ a ∈ l, F [t a] = some (g a)) : lcL (gN k) mYes (mCall F (mCons (mVar k) mNil)) ρ (l.map t) = some (l.map g) := by
  induction l with
  | nil => rfl
  | cons a l ih =>
    show ((gN k (t a) ρ).bind fun ρ1 => (mYes ρ1).bind fun b => if b = true then (mCall F (mCons (mVar k) mNil) ρ1).bind fun y => (lcL (gN k) mYes (mCall F (mCons (mVar k) mNil)) ρ (l.map t)).map (y :: ·) else _) = _
    rw [ih fun b hb => h b (List.mem_cons_of_mem _ hb)]
    simp [hk, h a List.mem_cons_self]
/-! ### lists of numbers -/
def intsW (zs : List Str) : Option (List Int) := allW numW zs
def lstI (ns : List Int) : D := .lst (ns.map D.int)
theorem F_numbers_ok {zs : List Str} (hl : zs.length ≤ 10000000) (hz : ∀ z ∈ zs, small z) : F_numbers_of [.lst (zs.map .str)] = some (optD lstI (intsW zs)) := by
  refine F_of rfl ?_
  show m_numbers_of [.pu (.lst (zs.map .str)), .un, .un] = _
  unfold m_numbers_of
  have e1 : lcL (gN 2) mYes (mCall F_number_of (mCons (mVar 2) mNil)) [.pu (.lst (zs.map .str)), .un, .un] (zs.map D.str) = some (zs.map fun z => optD D.int (numW z)) := lc_call (fun d => by simp) fun z hm => F_number_str (big_of' (hz z hm))
  have e2 := inP_opt (f := numW) (t := D.int) (u := PyData.int) (fun _ => rfl) (fun _ => rfl) zs
  have hl' : (zs.map D.str).length ≤ 10000000 := by simpa using hl
  simp only [e_seq, e_asg, e_lst, e_lc, e_items, e_var0, Option.bind_some, e_itemsD_lst, e_wipe1, e_wipe0, e_set2, if_pos hl', e1, Option.map_some, e_set1, e_ret, e_if, e_test, e_op, e_C, e_var1, e2, e_asB]
  unfold intsW
  cases h : allW numW zs with
  | none => rfl
  | some ns =>
    rw [all_some h]
    rfl
/-! ### lists that rise -/
/-- the first place at which an item is not above the one before, places counted from i -/
def fallAt (i : Nat) : List PyData → Option Nat
  | a :: b :: r => if PySem.W.dataLt a b = true then fallAt (i + 1) (b :: r) else some i
  | _ => none
def rises (ps : List PyData) : Bool := (fallAt 1 ps).isNone
/-- keys: data, every two of them comparable -/
structure Keys (ds : List D) (ps : List PyData) : Prop where
  p : pds ds = some ps
  c : ∀ a ∈ ps, ∀ b ∈ ps, ltC a b = true
theorem Keys.tail {d : D} {ds : List D} {p : PyData} {ps : List PyData} (h : Keys (d :: ds) (p :: ps)) : Keys ds ps := by
  have h1 := h.p
  simp only [pds, Option.bind_eq_some_iff, Option.map_eq_some_iff] at h1
  obtain ⟨_, _, _, h2, e⟩ := h1
  cases e
  exact ⟨h2, fun a ha b hb => h.c a (List.mem_cons_of_mem _ ha) b (List.mem_cons_of_mem _ hb)⟩
theorem pds_len : ∀ {ds : List D} {ps : List PyData}, pds ds = some ps → ps.length = ds.length
  | [], ps, h => by cases h; rfl
  | d :: ds, ps, h => by
    simp only [pds, Option.bind_eq_some_iff, Option.map_eq_some_iff] at h
    obtain ⟨_, _, qs, h2, rfl⟩ := h
    simp [pds_len h2]
theorem pds_get : ∀ {ds : List D} {ps : List PyData} {i : Nat} (h : pds ds = some ps) (hi : i < ds.length) (hi2 : i < ps.length), pd ds[i] = some ps[i]
  | [], ps, i, _, hi, _ => absurd hi (by simp)
  | d :: ds, ps, i, h, hi, hi2 => by
    simp only [pds, Option.bind_eq_some_iff, Option.map_eq_some_iff] at h
    obtain ⟨p, h1, qs, h2, rfl⟩ := h
    cases i with
    | zero => exact h1
    | succ i => exact pds_get h2 (by simpa using hi) (by simpa using hi2)
theorem ord_keys {ds : List D} {ps : List PyData} (k : Keys ds ps) (f : PyData → PyData → Bool) {i j : Nat} (hi : i < ds.length) (hj : j < ds.length) (hi2 : i < ps.length) (hj2 : j < ps.length) : ordP f ds[i] ds[j] = some (.bl (f ps[i] ps[j])) := by
  unfold ordP
  rw [pds_get k.p hi hi2, pds_get k.p hj hj2]
  simp only [Option.bind_some]
  exact if_pos (k.c _ (List.getElem_mem _) _ (List.getElem_mem _))
theorem lc_zip {x : DE} : ∀ {ds : List D} {ps : List PyData}, Keys ds ps → lcL (gT [1, 2]) mYes (mOp ltP (mVar 1) (mVar 2)) [x, .un, .un] (zipD ds (ds.drop 1)) = some ((List.zipWith (fun a b => PySem.W.dataLt a b) ps (ps.drop 1)).map D.bl)
  | [], ps, k => by
    have := k.p
    cases this
    rfl
  | [d], ps, k => by
    have := k.p
    simp only [pds, Option.bind_eq_some_iff, Option.map_eq_some_iff] at this
    obtain ⟨p, _, qs, h2, rfl⟩ := this
    cases h2
    rfl
  | d :: d2 :: ds, ps, k => by
    have hp := pds_len k.p
    match ps, hp, k with
    | p :: p2 :: ps, _, k =>
      have ih := lc_zip (x := x) k.tail
      have e := ord_keys k (fun a b => PySem.W.dataLt a b) (i := 0) (j := 1) (by simp) (by simp) (by simp) (by simp)
      show (ltP d d2).bind (fun y => (lcL (gT [1, 2]) mYes (mOp ltP (mVar 1) (mVar 2)) [x, .un, .un] (zipD (d2 :: ds) ds)).map (y :: ·)) = _
      have e' : ltP d d2 = some (.bl (PySem.W.dataLt p p2)) := e
      rw [e', Option.bind_some]
      simp only [List.drop_succ_cons, List.drop_zero] at ih ⊢
      rw [ih]
      rfl
theorem rises_zip : ∀ (i : Nat) (ps : List PyData), (List.zipWith (fun a b => PySem.W.dataLt a b) ps (ps.drop 1)).all id = (fallAt i ps).isNone
  | i, [] => rfl
  | i, [a] => rfl
  | i, a :: b :: r => by
    have ih := rises_zip (i + 1) (b :: r)
    simp only [List.drop_succ_cons, List.drop_zero] at ih
    show (List.zipWith (fun a b => PySem.W.dataLt a b) (a :: b :: r) (b :: r)).all id = (if PySem.W.dataLt a b = true then fallAt (i + 1) (b :: r) else some i).isNone
    rw [List.zipWith_cons_cons, List.all_cons, ih]
    cases PySem.W.dataLt a b <;> simp
theorem sl_one (ds : List D) : slD (.lst ds) (some 1) none = some (.lst (ds.drop 1)) := by
  show some (D.lst (DD.cutD ds (some 1) none)) = _
  congr 2
  unfold DD.cutD
  rw [show (some (1 : Int)) = some ((1 : Nat) : Int) from rfl, HT.sIx_nat, HT.sIx_none]
  rw [List.take_of_length_le (by simp)]
  cases ds with
  | nil => simp
  | cons a r =>
    have : min 1 (a :: r).length = 1 := by simp
    rw [this]
theorem F_rising_ok {ds : List D} {ps : List PyData} (k : Keys ds ps) (hl : ds.length ≤ 10000000) : F_is_rising [.lst ds] = some (.bl (rises ps)) := by
  refine F_of rfl ?_
  show m_is_rising [.pu (.lst ds), .un, .un] = _
  unfold m_is_rising
  have e1 := lc_zip (x := .pu (.lst ds)) k
  have e0 : mZip (mCons (mVar 0) (mCons (mSl slD (mVar 0) (mPart (mC (.int 1))) mNoPart) mNil)) [.pu (.lst ds), .un, .un] = some (zipD ds (ds.drop 1)) := by
    unfold mZip
    simp [sl_one]
  have hz : (zipD ds (ds.drop 1)).length ≤ 10000000 := by
    rw [zipD_len]
    omega
  have e2 : allD [.lst ((List.zipWith (fun a b => PySem.W.dataLt a b) ps (ps.drop 1)).map D.bl)] = some (.bl (rises ps)) := by
    rw [allD_map]
    unfold rises
    rw [← rises_zip 1]
    congr 2
  simp only [e_ret, e_call, e_cons, e_lst, e_lc, e0, Option.bind_some, if_pos hz, e_wipe1, e_wipe0, e_set1, e_set2, e1, Option.map_some, e_nil, e2]
/-! ### the first fallen -/
def optN (o : Option Nat) : D := match o with
  | none => .non
  | some k => .int (k : Int)
theorem ix_get {ds : List D} {k : Nat} (hk : k < ds.length) : ixD (.lst ds) (.val (.int (k : Int))) = some ds[k] := by
  show atI ds (k : Int) = _
  unfold atI ixN
  simp [hk]
theorem fall_step {ps : List PyData} {j : Nat} (h : j + 1 < ps.length) : fallAt (j + 1) (ps.drop j) = if PySem.W.dataLt ps[j] ps[j + 1] = true then fallAt (j + 2) (ps.drop (j + 1)) else some (j + 1) := by
  rw [List.drop_eq_getElem_cons (show j < ps.length by omega), List.drop_eq_getElem_cons h]
  rfl
theorem le_step {ds : List D} {ps : List PyData} (k : Keys ds ps) {j : Nat} (h : j + 1 < ds.length) : ((ixD (.lst ds) (.val (.int (((j + 1 : Nat) : Int))))).bind fun x => (ixD (.lst ds) (.val (.int (((j + 1 : Nat) : Int) - 1)))).bind fun y => leP x y) = some (.bl (!PySem.W.dataLt (ps[j]'(by rw [pds_len k.p]; omega)) (ps[j + 1]'(by rw [pds_len k.p]; omega)))) := by
  have e : (((j + 1 : Nat) : Int) - 1) = ((j : Nat) : Int) := by omega
  rw [e, ix_get h, ix_get (show j < ds.length by omega)]
  exact ord_keys k (fun a b => !PySem.W.dataLt b a) (i := j + 1) (j := j) h (by omega) (by rw [pds_len k.p]; omega) (by rw [pds_len k.p]; omega)
@[simp] theorem e_sub_int (i j : Int) : subD (.val (.int i)) (.val (.int j)) = some (.val (.int (i - j))) := id rfl
@[simp] theorem e_add_int (i j : Int) : addD (.val (.int i)) (.val (.int j)) = some (.val (.int (i + j))) := id rfl
theorem e_range2 {m : MA} {ρ : DEnv} {a b : Int} (h : m ρ = some [.int a, .int b]) (hb : (-(2 ^ 62) ≤ a ∧ a < 2 ^ 62) ∧ (-(2 ^ 62) ≤ b ∧ b < 2 ^ 62)) : mRange2 m ρ = some (rangeD a (b - a).toNat) := by
  unfold mRange2
  rw [h]
  exact if_pos hb
theorem e_range1 {m : MA} {ρ : DEnv} {a : Int} (h : m ρ = some [.int a]) (hb : -(2 ^ 62) ≤ a ∧ a < 2 ^ 62) : mRange1 m ρ = some (rangeD 0 a.toNat) := by
  unfold mRange1
  rw [h]
  exact if_pos hb
theorem range2_eq (n : Nat) : rangeD 1 n = (List.range' 1 n).map fun (i : Nat) => D.int (i : Int) := by
  unfold rangeD
  rw [List.range'_eq_map_range, List.map_map]
  apply List.map_congr_left
  intro i _
  show D.int (1 + (i : Int)) = D.int (((1 + i : Nat) : Int))
  congr 2
theorem F_fallen_ok {ds : List D} {ps : List PyData} (k : Keys ds ps) (hl : ds.length ≤ 10000000) : F_first_fallen [.lst ds] = some (optN (fallAt 1 ps)) := by
  refine F_of rfl ?_
  show m_first_fallen [.pu (.lst ds), .un] = _
  unfold m_first_fallen
  have e0 : mRange2 (mCons (mC (.int 1)) (mCons (mCall lenD (mCons (mVar 0) mNil)) mNil)) [.pu (.lst ds), .un] = some ((List.range' 1 (ds.length - 1)).map fun (i : Nat) => D.int (i : Int)) := by
    rw [e_range2 (a := 1) (b := (ds.length : Int)) rfl (by omega), ← range2_eq]
    congr 2
    omega
  have hp := pds_len k.p
  have loop : ∀ (n j : Nat) (x : DE), j + 1 + n = max 1 ds.length → forL (gN 1) (mIfS (mTest (mOp leP (mOp ixD (mVar 0) (mVar 1)) (mOp ixD (mVar 0) (mOp subD (mVar 1) (mC (.int 1)))))) (mRet (mVar 1)) mNext) ((List.range' (j + 1) n).map fun (i : Nat) => D.int (i : Int)) [.pu (.lst ds), x] =
      match fallAt (j + 1) (ps.drop j) with
      | none => some (.nx [.pu (.lst ds), if n = 0 then x else .pu (.int ((j + n : Nat) : Int))])
      | some f => some (.rt (.int (f : Int))) := fun n => by
    induction n with
    | zero =>
      intro j x hj
      have : fallAt (j + 1) (ps.drop j) = none := by
        have : (ps.drop j).length ≤ 1 := by rw [List.length_drop]; omega
        match ps.drop j, this with
        | [], _ => rfl
        | [a], _ => rfl
      rw [this]
      rfl
    | succ n ih =>
      intro j x hj
      have hj1 : j + 1 < ds.length := by omega
      rw [List.range'_succ, List.map_cons]
      have e := le_step k hj1
      rw [fall_step (show j + 1 < ps.length by omega)]
      cases hd : PySem.W.dataLt (ps[j]'(by omega)) (ps[j + 1]'(by omega)) with
      | true =>
        rw [hd] at e
        rw [for_cons_nx (ρ1 := [.pu (.lst ds), .pu (.int ((j + 1 : Nat) : Int))]) (ρ2 := [.pu (.lst ds), .pu (.int ((j + 1 : Nat) : Int))]) rfl (by
          simp only [e_ifS, e_test, e_op, e_var0, e_var1, Option.bind_some, e_C, e_sub_int, e, e_asB, Bool.not_true, Bool.false_eq_true, if_false, e_next])]
        have ee : (if n = 0 then DE.pu (.int ((j + 1 : Nat) : Int)) else .pu (.int ((j + 1 + n : Nat) : Int))) = .pu (.int ((j + (n + 1) : Nat) : Int)) := by
          cases n with
          | zero => rfl
          | succ n => rw [if_neg (by omega), show j + 1 + (n + 1) = j + (n + 1 + 1) by omega]
        rw [ih (j + 1) _ (by omega), if_pos rfl, ee, if_neg (by omega)]
      | false =>
        rw [hd] at e
        rw [for_cons_rt (ρ1 := [.pu (.lst ds), .pu (.int ((j + 1 : Nat) : Int))]) (x := .int ((j + 1 : Nat) : Int)) rfl (by
          simp only [e_ifS, e_test, e_op, e_var0, e_var1, Option.bind_some, e_C, e_sub_int, e, e_asB, Bool.not_false, if_true, e_ret, Option.map_some])]
        rfl
  have l0 := loop (ds.length - 1) 0 .un (by omega)
  rw [List.drop_zero] at l0
  simp only [Nat.zero_add] at l0
  simp only [e_seq, e_for, e0, Option.bind_some, l0]
  cases fallAt 1 ps with
  | none => rfl
  | some f => rfl
/-- the law's own way to find it -/
def fallsL (ps : List PyData) : List Nat := (List.range' 1 (ps.length - 1)).filter fun k => !PySem.W.dataLt (ps.getD (k - 1) .none) (ps.getD k .none)
theorem falls_head : ∀ (n j : Nat) (ps : List PyData), j + 1 + n = max 1 ps.length → ((List.range' (j + 1) n).filter fun k => !PySem.W.dataLt (ps.getD (k - 1) .none) (ps.getD k .none)).head? = fallAt (j + 1) (ps.drop j)
  | 0, j, ps, h => by
    have : (ps.drop j).length ≤ 1 := by rw [List.length_drop]; omega
    match ps.drop j, this with
    | [], _ => rfl
    | [a], _ => rfl
  | n + 1, j, ps, h => by
    have hj1 : j + 1 < ps.length := by omega
    rw [List.range'_succ, fall_step hj1]
    have ih := falls_head n (j + 1) ps (by omega)
    have g1 : ps.getD (j + 1 - 1) .none = ps[j] := by
      rw [Nat.add_sub_cancel, List.getD_eq_getElem?_getD, List.getElem?_eq_getElem (by omega)]
      rfl
    have g2 : ps.getD (j + 1) .none = ps[j + 1] := by
      rw [List.getD_eq_getElem?_getD, List.getElem?_eq_getElem hj1]
      rfl
    rw [List.filter_cons, g1, g2]
    cases hd : PySem.W.dataLt ps[j] ps[j + 1] with
    | true => simpa using ih
    | false => rfl
theorem F_lawRising_ok {ds : List D} {ps : List PyData} (k : Keys ds ps) (hl : ds.length ≤ 1000001) : F__law_rising [.lst ds] = some (optN (fallAt 1 ps)) := by
  refine F_of rfl ?_
  show m__law_rising [.pu (.lst ds), .un] = _
  unfold m__law_rising
  have e0 : mRange2 (mCons (mC (.int 1)) (mCons (mCall lenD (mCons (mVar 0) mNil)) mNil)) [.pu (.lst ds), .un] = some ((List.range' 1 (ds.length - 1)).map fun (i : Nat) => D.int (i : Int)) := by
    rw [e_range2 (a := 1) (b := (ds.length : Int)) rfl (by omega), ← range2_eq]
    congr 2
    omega
  have hp := pds_len k.p
  have e1 : lcL (gN 1) (mTest (mOp leP (mOp ixD (mVar 0) (mVar 1)) (mOp ixD (mVar 0) (mOp subD (mVar 1) (mC (.int 1)))))) (mVar 1) [.pu (.lst ds), .un] ((List.range' 1 (ds.length - 1)).map fun (i : Nat) => D.int (i : Int)) = some ((fallsL ps).map fun (i : Nat) => D.int (i : Int)) := by
    have := lc_gen (set := gN 1) (cond := mTest (mOp leP (mOp ixD (mVar 0) (mVar 1)) (mOp ixD (mVar 0) (mOp subD (mVar 1) (mC (.int 1)))))) (elt := mVar 1) (ρ := [.pu (.lst ds), .un])
      (p := fun d => match d with
        | .val (.int i) => !PySem.W.dataLt (ps.getD (i.toNat - 1) .none) (ps.getD i.toNat .none)
        | _ => false) (g := id) (ds := (List.range' 1 (ds.length - 1)).map fun (i : Nat) => D.int (i : Int)) fun d hd => by
      obtain ⟨i, hi, rfl⟩ := List.mem_map.mp hd
      rw [List.mem_range'_1] at hi
      refine ⟨_, rfl, ?_, fun _ => by simp⟩
      obtain ⟨j, rfl⟩ : ∃ j, i = j + 1 := ⟨i - 1, by omega⟩
      have e := le_step k (show j + 1 < ds.length by omega)
      simp only [e_test, e_op, e_set1, e_var0, e_var1, Option.bind_some, e_C, e_sub_int, e, e_asB]
      have t1 : ((j + 1 : Nat) : Int).toNat = j + 1 := by simp
      have g1 : ps.getD j .none = ps[j] := by
        rw [List.getD_eq_getElem?_getD, List.getElem?_eq_getElem (show j < ps.length by omega)]
        rfl
      have g2 : ps.getD (j + 1) .none = ps[j + 1] := by
        rw [List.getD_eq_getElem?_getD, List.getElem?_eq_getElem (show j + 1 < ps.length by omega)]
        rfl
      show _ = some (!PySem.W.dataLt (ps.getD (((j + 1 : Nat) : Int).toNat - 1) .none) (ps.getD ((j + 1 : Nat) : Int).toNat .none))
      rw [t1, Nat.add_sub_cancel, g1, g2]
    rw [this, List.map_id, List.filter_map]
    unfold fallsL
    rw [hp]
    rfl
  have hz : ((List.range' 1 (ds.length - 1)).map fun (i : Nat) => D.int (i : Int)).length ≤ 10000000 := by
    rw [List.length_map, List.length_range']
    omega
  have hf : (fallsL ps).length ≤ 1000001 := by
    unfold fallsL
    refine Nat.le_trans (List.length_filter_le _ _) ?_
    rw [List.length_range']
    omega
  have e2 : addD (.lst ((fallsL ps).map fun (i : Nat) => D.int (i : Int))) (.lst [.val .non]) = some (.lst ((fallsL ps).map (fun (i : Nat) => D.int (i : Int)) ++ [.val .non])) := if_pos (by simp [big_eq]; omega)
  have e3 : ixD (.lst ((fallsL ps).map (fun (i : Nat) => D.int (i : Int)) ++ [.val .non])) (.val (.int 0)) = some (optN (fallAt 1 ps)) := by
    have hh := falls_head (ps.length - 1) 0 ps (by omega)
    rw [List.drop_zero] at hh
    have hh' : (fallsL ps).head? = fallAt 1 ps := hh
    rw [← hh', show (0 : Int) = ((0 : Nat) : Int) from rfl, ix_get (by simp)]
    cases fallsL ps with
    | nil => rfl
    | cons f r => rfl
  simp only [e_ret, e_op, e_lst, e_lc, e0, Option.bind_some, if_pos hz, e_wipe1, e_wipe0, e_set1, e1, Option.map_some, e_few, e_cons, e_C, e_nil, e2, e3]
  simp [e2, e3]
end KN

set_option Elab.async false
set_option linter.all false
set_option maxRecDepth 100000
set_option maxHeartbeats 4000000
namespace KN
open PySem PySem.Spec PyProof.Rows L2 Evl DD
/-! N3: labels, parts, atoms, kinds -/
@[simp] theorem optD_none {β : Type} {t : β → D} : optD t none = .val .non := id rfl
@[simp] theorem optD_some {β : Type} {t : β → D} {b : β} : optD t (some b) = t b := id rfl
def isWord (z : Str) : Bool := decide (z = "and") || decide (z = "or") || decide (z = "not")
def isLab (z : Str) : Bool := decide (1 ≤ z.length) && decide (z.length ≤ 8) && (tl z).all isLet && !isWord z
theorem words_any (z : Str) : ([PyData.str "and", .str "or", .str "not"].any fun y => PyData.eqv y (.str z)) = isWord z := by
  unfold isWord
  simp only [List.any_cons, List.any_nil, PyData.eqv, beq_dec, Bool.or_false]
  rw [Bool.eq_iff_iff]
  simp only [Bool.or_eq_true, decide_eq_true_eq]
  constructor
  · rintro (h | h | h)
    · exact .inl (.inl h.symm)
    · exact .inl (.inr h.symm)
    · exact .inr h.symm
  · rintro ((h | h) | h)
    · exact .inl h.symm
    · exact .inr (.inl h.symm)
    · exact .inr (.inr h.symm)
theorem mem_words (z : Str) : memP (.val (.str z)) (.tup [.str "and", .str "or", .str "not"]) = some (isWord z) := by
  have e : memP (.val (.str z)) (.tup [.str "and", .str "or", .str "not"]) = some ([PyData.str "and", .str "or", .str "not"].any fun y => PyData.eqv y (.str z)) := rfl
  rw [e, words_any]
theorem inP_words (z : Str) : inP (.val (.str z)) (.tup [.str "and", .str "or", .str "not"]) = some (.bl (isWord z)) := by
  unfold inP
  rw [mem_words]
  rfl
theorem ninP_words (z : Str) : ninP (.val (.str z)) d_WORDS = some (.bl (!isWord z)) := by
  show ninP (.val (.str z)) (.tup [.str "and", .str "or", .str "not"]) = _
  unfold ninP
  rw [mem_words]
  rfl
theorem kit_str : isiD [.val (.str z), .val (.ty "str")] = some (.bl true) := by
  have : kitB "str" "str" = some true := by decide +kernel
  show (kitB "str" "str").map D.bl = _
  rw [this]
  rfl
theorem F_letters_str {z : Str} (hb : z.length ≤ 10000000) : F_are_letters [.str z] = some (.bl ((tl z).all isLet)) := by
  refine F_of rfl ?_
  show m_are_letters [.pu (.str z), .un] = _
  unfold m_are_letters
  have e1 : lcL (gN 1) mYes (mOp inP (mVar 1) (mC (.str "abcdefghijklmnopqrstuvwxyz"))) [.pu (.str z), .un] (signsD z) = some ((tl z).map fun c => D.bl (isLet c)) := lc_signs z fun c => by simp
  simp [hb, e1, allD_map]
theorem F_label_str {z : Str} (hb : z.length ≤ big) : F_is_label [.str z] = some (.bl (isLab z)) := by
  refine F_of rfl ?_
  show m_is_label [.pu (.str z)] = _
  unfold m_is_label
  by_cases h1 : 1 ≤ z.length
  · by_cases h2 : z.length ≤ 8
    · have i1 : (1 : Int) ≤ (z.length : Int) := by omega
      have i2 : (z.length : Int) ≤ 8 := by omega
      have e1 := F_letters_str (z := z) (by omega)
      have e2 := ninP_words z
      cases h3 : (tl z).all isLet with
      | true =>
        rw [h3] at e1
        cases h4 : isWord z <;> rw [h4] at e2 <;> simp [kit_str, lenD_str hb, i1, i2, e1, e2, isLab, h1, h2, h3, h4]
      | false =>
        rw [h3] at e1
        simp [kit_str, lenD_str hb, i1, i2, e1, isLab, h1, h2, h3]
    · have i1 : (1 : Int) ≤ (z.length : Int) := by omega
      have i2 : ¬ (z.length : Int) ≤ 8 := by omega
      simp [kit_str, lenD_str hb, i1, i2, isLab, h2]
  · have i1 : ¬ (1 : Int) ≤ (z.length : Int) := by omega
    simp [kit_str, lenD_str hb, i1, isLab, h1]
theorem F_lawLabel_str {z : Str} (hb : z.length ≤ big) : F__law_is_label [.str z] = some (.bl (isLab z)) := by
  refine F_of rfl ?_
  show m__law_is_label [.pu (.str z), .un] = _
  unfold m__law_is_label
  have e1 : lcL (gN 1) (mTest (mOp ninP (mVar 1) (mC (.str "abcdefghijklmnopqrstuvwxyz")))) (mVar 1) [.pu (.str z), .un] (signsD z) = some (((tl z).filter fun c => !isLet c).map fun c => D.str ⟨#[c]⟩) := lc_signsIf z (fun c => by simp) (fun c => by simp)
  have e2 := eqP_nil (pds_signs ((tl z).filter fun c => !isLet c))
  rw [signs_bad] at e2
  have e3 := inP_words z
  by_cases h1 : 1 ≤ z.length
  · by_cases h2 : z.length ≤ 8
    · have i1 : (1 : Int) ≤ (z.length : Int) := by omega
      have i2 : (z.length : Int) ≤ 8 := by omega
      have i3 : z.length ≤ 10000000 := by omega
      cases h4 : isWord z <;> rw [h4] at e3 <;> simp [lenD_str hb, i1, i2, i3, e1, e2, e3, isLab, h1, h2, h4]
    · have i1 : (1 : Int) ≤ (z.length : Int) := by omega
      have i2 : ¬ (z.length : Int) ≤ 8 := by omega
      simp [lenD_str hb, i1, i2, isLab, h2]
  · have i1 : ¬ (1 : Int) ≤ (z.length : Int) := by omega
    simp [lenD_str hb, i1, isLab, h1]
/-! ### atoms -/
theorem keys_ints (ns : List Int) : Keys (ns.map D.int) (ns.map PyData.int) := by
  refine ⟨pds_map (fun _ => rfl) ns, fun a ha b hb => ?_⟩
  obtain ⟨i, _, rfl⟩ := List.mem_map.mp ha
  obtain ⟨j, _, rfl⟩ := List.mem_map.mp hb
  rfl
def risesI (ns : List Int) : Bool := rises (ns.map PyData.int)
def atomsW (zs : List Str) : Option (List Int) := (intsW zs).bind fun ns => if risesI ns = true then some ns else none
theorem F_atoms_ok {zs : List Str} (hl : zs.length ≤ 1000001) (hz : ∀ z ∈ zs, small z) : F_atoms_told [.lst (zs.map .str)] = some (optD tupI (atomsW zs)) := by
  refine F_of rfl ?_
  show m_atoms_told [.pu (.lst (zs.map .str)), .un] = _
  unfold m_atoms_told
  have e1 := F_numbers_ok (zs := zs) (by omega) hz
  unfold atomsW
  cases h : intsW zs with
  | none =>
    rw [h] at e1
    have e1' : F_numbers_of [.lst (zs.map .str)] = some (.val .non) := e1
    simp only [e_seq, e_asg, e_call, e_cons, e_nil, e_var0, Option.bind_some, Option.map_some, e1', e_set1, e_ret, e_if, e_or, e_test, e_op, e_var1, e_C, e_isN, isNon_non, e_asB, if_true]
    rfl
  | some ns =>
    rw [h] at e1
    have hn : ns.length = zs.length := allW_len h
    have e1' : F_numbers_of [.lst (zs.map .str)] = some (.lst (ns.map D.int)) := e1
    have e2 := F_rising_ok (keys_ints ns) (by rw [List.length_map]; omega)
    simp only [e_seq, e_asg, e_call, e_cons, e_nil, e_var0, Option.bind_some, Option.map_some, e1', e_set1, e_ret, e_if, e_or, e_test, e_op, e_var1, e_C, e_isN, isNon_lst, e_asB, Bool.false_eq_true, if_false, e_not, e_tru, e2, e_truB, e_tupleL]
    show (if (!risesI ns) = true then some (D.val .non) else some (D.tup (ns.map D.int))).map Out.rt = _
    cases risesI ns <;> rfl
theorem atoms_c1 {ns : List Int} {x y : DE} (e2 : inP (.val .non) (.lst (ns.map .int)) = some (.bl false)) : mTest (mOp inP (mC .non) (mVar 1)) [x, .pu (.lst (ns.map .int)), y] = some false := by
  simp only [e_test, e_op, e_C, e_var1, Option.bind_some, e2, e_asB]
theorem atoms_c2 {F : List D → Option D} {ns : List Int} {x y : DE} {b : Bool} {d : D} (e3 : F [.lst (ns.map .int)] = some d) (e4 : isNonD d = b) : mTest (mOp notND (mCall F (mCons (mVar 1) mNil)) (mC .non)) [x, .pu (.lst (ns.map .int)), y] = some (!b) := by
  simp only [e_test, e_op, e_C, e_call, e_cons, e_nil, e_var1, Option.bind_some, Option.map_some, e3, e_notN, e4, e_asB]
theorem or_f {a b : MT} {ρ : DEnv} (h : a ρ = some false) : mOr a b ρ = b ρ := by
  rw [e_or, h, Option.bind_some, if_neg Bool.false_ne_true]
theorem atoms_c3 {F : List D → Option D} {ns : List Int} {x y : DE} {b : Bool} {d : D} (e2 : inP (.val .non) (.lst (ns.map .int)) = some (.bl false)) (e3 : F [.lst (ns.map .int)] = some d) (e4 : isNonD d = b) : mOr (mTest (mOp inP (mC .non) (mVar 1))) (mTest (mOp notND (mCall F (mCons (mVar 1) mNil)) (mC .non))) [x, .pu (.lst (ns.map .int)), y] = some (!b) :=
  (or_f (atoms_c1 e2)).trans (atoms_c2 e3 e4)
theorem F_lawAtoms_ok {zs : List Str} (hl : zs.length ≤ 1000001) (hz : ∀ z ∈ zs, small z) : F__law_atoms_told [.lst (zs.map .str)] = some (optD tupI (atomsW zs)) := by
  refine F_of rfl ?_
  show m__law_atoms_told [.pu (.lst (zs.map .str)), .un, .un] = _
  unfold m__law_atoms_told
  have e1 : lcL (gN 2) mYes (mCall F__law_number (mCons (mVar 2) mNil)) [.pu (.lst (zs.map .str)), .un, .un] (zs.map D.str) = some (zs.map fun z => optD D.int (numW z)) := lc_call (fun d => by simp) fun z hm => F_lawNumber_str (big_of' (hz z hm))
  have e2 := inP_opt (f := numW) (t := D.int) (u := PyData.int) (fun _ => rfl) (fun _ => rfl) zs
  have hl' : (zs.map D.str).length ≤ 10000000 := by rw [List.length_map]; exact Nat.le_trans hl (by decide)
  unfold atomsW intsW
  cases h : allW numW zs with
  | none =>
    rw [h] at e2
    simp only [e_seq, e_asg, e_lst, e_lc, e_items, e_var0, Option.bind_some, e_itemsD_lst, e_wipe1, e_wipe0, e_set2, if_pos hl', e1, Option.map_some, e_set1, e_ifS, e_or, e_test, e_op, e_C, e_var1, e2, e_asB, Option.isNone_none, if_true, e_ret, Option.bind_none, optD_none]
  | some ns =>
    have hn : ns.length = zs.length := allW_len h
    rw [h] at e2
    rw [all_some h] at e1 e2
    have hl2 : zs.length ≤ 10000000 := Nat.le_trans hl (by decide)
    have hn2 : (ns.map D.int).length ≤ 1000001 := by rw [List.length_map, hn]; exact hl
    have e3 := F_lawRising_ok (keys_ints ns) hn2
    have e4 : isNonD (optN (fallAt 1 (ns.map PyData.int))) = risesI ns := by
      unfold risesI rises
      cases fallAt 1 (ns.map PyData.int) <;> rfl
    have c3 := atoms_c3 (x := .pu (.lst (zs.map .str))) (y := .un) e2 e3 e4
    simp only [e_seq, e_asg, e_lst, e_lc, e_items, e_var0, Option.bind_some, e_itemsD_lst, e_wipe1, e_wipe0, e_set2, if_pos hl', e1, Option.map_some, e_set1]
    rw [e_ifS, c3]
    cases risesI ns <;> rfl
/-! ### parts -/
def partsW (s : Str) (zs : List Str) : List (List Str) := partsGo s [] [] zs
theorem F_parts_ok {zs : List Str} {s : Str} (hl : zs.length ≤ 1000001) : F_parts_at [.lst (zs.map .str), .val (.str s)] = some (partsD (partsW s zs)) := by
  refine F_of rfl ?_
  show (strsD (zs.map D.str)).bind (fun zs => if zs.length ≤ 10000000 then some (Out.rt (partsD (partsGo s [] [] zs))) else none) = _
  rw [strsD_map, Option.bind_some, if_pos (by omega)]
  rfl
theorem partsGo_init (s : Str) : ∀ (zs : List Str) (init : List (List Str)) (last : List Str), partsGo s init last zs = init ++ partsGo s [] last zs
  | [], init, last => by simp [partsGo]
  | z :: r, init, last => by
    unfold partsGo
    split
    · rw [partsGo_init s r (init ++ [last]), partsGo_init s r ([] ++ [last])]
      simp
    · exact partsGo_init s r init _
theorem partsGo_none (s : Str) : ∀ (zs : List Str) (last : List Str), s ∉ zs → partsGo s [] last zs = [last ++ zs]
  | [], last, _ => by simp [partsGo]
  | z :: r, last, h => by
    unfold partsGo
    rw [if_neg fun e => h (by rw [e]; exact List.mem_cons_self), partsGo_none s r _ fun hm => h (List.mem_cons_of_mem _ hm)]
    simp
theorem partsGo_cut (s : Str) : ∀ (p : List Str) (q last : List Str), s ∉ p → partsGo s [] last (p ++ s :: q) = (last ++ p) :: partsGo s [] [] q
  | [], q, last, _ => by
    have : partsGo s [] last (s :: q) = partsGo s ([] ++ [last]) [] q := if_pos rfl
    show partsGo s [] last (s :: q) = _
    rw [this, partsGo_init]
    simp
  | z :: r, q, last, h => by
    have : partsGo s [] last (z :: (r ++ s :: q)) = partsGo s [] (last ++ [z]) (r ++ s :: q) := if_neg fun e => h (by rw [e]; exact List.mem_cons_self)
    show partsGo s [] last (z :: (r ++ s :: q)) = _
    rw [this, partsGo_cut s r q _ fun hm => h (List.mem_cons_of_mem _ hm)]
    simp
theorem partsW_none {s : Str} {zs : List Str} (h : s ∉ zs) : partsW s zs = [zs] := partsGo_none s zs [] h
theorem partsW_cut {s : Str} {p q : List Str} (h : s ∉ p) : partsW s (p ++ s :: q) = p :: partsW s q := partsGo_cut s p q [] h
theorem cut_or (s : Str) (zs : List Str) : s ∉ zs ∨ ∃ p q, zs = p ++ s :: q ∧ s ∉ p := by
  by_cases h : s ∈ zs
  · obtain ⟨p, q, e, hn⟩ := List.eq_append_cons_of_mem h
    exact .inr ⟨p, q, e, hn⟩
  · exact .inl h
theorem partsW_pos (s : Str) (zs : List Str) : 1 ≤ (partsW s zs).length := by
  rcases cut_or s zs with h | ⟨p, q, rfl, h⟩
  · rw [partsW_none h]; simp
  · rw [partsW_cut h]; simp
/-- where the sign stands -/
def marksW (s : Str) (zs : List Str) : List Nat := (List.range zs.length).filter fun k => decide (zs[k]? = some s)
theorem marks_none {s : Str} {zs : List Str} (h : s ∉ zs) : marksW s zs = [] := by
  unfold marksW
  rw [List.filter_eq_nil_iff]
  intro k hk
  simp only [decide_eq_true_eq]
  exact fun e => h (List.mem_of_getElem? e)
theorem marks_cut {s : Str} {p q : List Str} (h : s ∉ p) : marksW s (p ++ s :: q) = p.length :: (marksW s q).map (fun k => k + (p.length + 1)) := by
  unfold marksW
  have e1 : (p ++ s :: q).length = p.length + (1 + q.length) := by simp; omega
  rw [e1, List.range_add, List.filter_append]
  have e2 : ((List.range p.length).filter fun k => decide ((p ++ s :: q)[k]? = some s)) = [] := by
    rw [List.filter_eq_nil_iff]
    intro k hk
    rw [List.mem_range] at hk
    simp only [decide_eq_true_eq]
    rw [List.getElem?_append_left hk]
    exact fun e => h (List.mem_of_getElem? e)
  rw [e2, List.nil_append, List.range_add, List.map_append, List.filter_append]
  have e3 : (List.filter (fun k => decide ((p ++ s :: q)[k]? = some s)) (List.map (fun x => p.length + x) (List.range 1))) = [p.length] := by
    have : (p ++ s :: q)[p.length]? = some s := by simp
    show List.filter _ [p.length + 0] = _
    rw [List.filter_cons_of_pos (by simp)]
    simp
  rw [e3, List.singleton_append]
  congr 1
  rw [List.map_map, List.filter_map]
  have e4 : ((fun k => decide ((p ++ s :: q)[k]? = some s)) ∘ ((fun x => p.length + x) ∘ fun x => 1 + x)) = fun k => decide (q[k]? = some s) := by
    funext k
    have : (p ++ s :: q)[p.length + (1 + k)]? = q[k]? := by
      rw [List.getElem?_append_right (by omega), show p.length + (1 + k) - p.length = k + 1 by omega, List.getElem?_cons_succ]
    simp only [Function.comp, this]
  rw [e4]
  apply List.map_congr_left
  intro k _
  show p.length + (1 + k) = k + (p.length + 1)
  omega
/-! ### kinds -/
abbrev Kind := Str × List Int × List Int
def kindD (k : Kind) : D := .tup [.str k.1, tupI k.2.1, tupI k.2.2]
def kindW (zs : List Str) : Option Kind := match partsW ":" zs with
  | [[l], near, below] => if isLab l = true then (atomsW near).bind fun a => (atomsW below).map fun b => (l, a, b) else none
  | _ => none
theorem parts_small {s : Str} {zs : List Str} (hl : zs.length ≤ 1000001) (hz : ∀ z ∈ zs, small z) : ∀ p ∈ partsW s zs, p.length ≤ 1000001 ∧ ∀ z ∈ p, small z := by
  have : ∀ (n : Nat) (zs : List Str), zs.length ≤ n → (∀ z ∈ zs, small z) → ∀ p ∈ partsW s zs, p.length ≤ n ∧ ∀ z ∈ p, small z := fun n => by
    induction n with
    | zero =>
      intro zs h _ p hp
      have : zs = [] := List.eq_nil_of_length_eq_zero (by omega)
      subst this
      rw [partsW_none (by simp), List.mem_singleton] at hp
      subst hp
      exact ⟨by simp, fun z hz => absurd hz (by simp)⟩
    | succ n ih =>
      intro zs h hz p hp
      rcases cut_or s zs with h1 | ⟨a, b, rfl, h1⟩
      · rw [partsW_none h1, List.mem_singleton] at hp
        subst hp
        exact ⟨h, hz⟩
      · rw [partsW_cut h1] at hp
        simp only [List.length_append, List.length_cons] at h
        rcases List.mem_cons.mp hp with rfl | hp
        · exact ⟨by omega, fun z hm => hz z (List.mem_append_left _ hm)⟩
        · obtain ⟨q1, q2⟩ := ih b (by omega) (fun z hm => hz z (List.mem_append_right _ (List.mem_cons_of_mem _ hm))) p hp
          exact ⟨by omega, q2⟩
  exact this _ zs hl hz
@[simp] theorem ix0 {a : D} {r : List D} : ixD (.lst (a :: r)) (.val (.int 0)) = some a := by
  show atI (a :: r) 0 = _
  unfold atI ixN
  simp
theorem ix1 {a b : D} {r : List D} : ixD (.lst (a :: b :: r)) (.val (.int 1)) = some b := ix_get (ds := a :: b :: r) (k := 1) (by simp)
theorem ix2 {a b c : D} {r : List D} : ixD (.lst (a :: b :: c :: r)) (.val (.int 2)) = some c := ix_get (ds := a :: b :: c :: r) (k := 2) (by simp)
theorem kindW_none {zs : List Str} (h : (partsW ":" zs).length ≠ 3) : kindW zs = none := by
  unfold kindW
  split
  · rename_i e
    rw [e] at h
    exact absurd rfl h
  · rfl
theorem F_kind_ok {zs : List Str} (hl : zs.length ≤ 1000001) (hz : ∀ z ∈ zs, small z) : F_kind_told [.lst (zs.map .str)] = some (optD kindD (kindW zs)) := by
  refine F_of rfl ?_
  show m_kind_told [.pu (.lst (zs.map .str)), .un, .un, .un] = _
  unfold m_kind_told
  have e1 := F_parts_ok (s := ":") hl
  have hs := parts_small (s := ":") hl hz
  have hlen : ∀ ps : List (List Str), lenD [partsD ps] = some (.int (ps.length : Int)) := fun ps => by
    show some (D.int ((ps.map fun p => D.lst (p.map D.str)).length : Int)) = _
    rw [List.length_map]
  match hp : partsW ":" zs with
  | [p, near, below] =>
    rw [hp] at e1 hs
    obtain ⟨n1, n2⟩ := hs near (by simp)
    obtain ⟨b1, b2⟩ := hs below (by simp)
    obtain ⟨_, l2⟩ := hs p (by simp)
    have i0 : ixD (partsD [p, near, below]) (.val (.int 0)) = some (.lst (p.map D.str)) := ix0
    have i1 : ixD (partsD [p, near, below]) (.val (.int 1)) = some (.lst (near.map D.str)) := ix1
    have i2 : ixD (partsD [p, near, below]) (.val (.int 2)) = some (.lst (below.map D.str)) := ix2
    have a1 := F_atoms_ok n1 n2
    have a2 := F_atoms_ok b1 b2
    match p with
    | [l] =>
      have i3 : ixD (.lst (([l] : List Str).map D.str)) (.val (.int 0)) = some (.str l) := ix0
      have e2 := F_label_str (big_of' (l2 l (by simp)))
      cases hL : isLab l with
      | false =>
        rw [hL] at e2
        have hk : kindW zs = none := by unfold kindW; rw [hp]; simp [hL]
        rw [hk]
        simp [e1, hlen, i0, i3, e2]
      | true =>
        rw [hL] at e2
        cases ha : atomsW near with
        | none =>
          rw [ha] at a1
          cases hb : atomsW below with
          | none =>
            rw [hb] at a2
            have hk : kindW zs = none := by unfold kindW; rw [hp]; simp [hL, ha, hb]
            rw [hk]
            simp [e1, hlen, i0, i1, i2, i3, e2, a1, a2]
          | some bs =>
            rw [hb] at a2
            have hk : kindW zs = none := by unfold kindW; rw [hp]; simp [hL, ha, hb]
            rw [hk]
            simp [e1, hlen, i0, i1, i2, i3, e2, a1, a2]
        | some as =>
          rw [ha] at a1
          cases hb : atomsW below with
          | none =>
            rw [hb] at a2
            have hk : kindW zs = none := by unfold kindW; rw [hp]; simp [hL, ha, hb]
            rw [hk]
            simp [e1, hlen, i0, i1, i2, i3, e2, a1, a2, tupI]
          | some bs =>
            rw [hb] at a2
            have hk : kindW zs = some (l, as, bs) := by unfold kindW; rw [hp]; simp [hL, ha, hb]
            rw [hk]
            simp [e1, hlen, i0, i1, i2, i3, e2, a1, a2, tupI, kindD]
    | [] =>
      have hk : kindW zs = none := by unfold kindW; rw [hp]
      rw [hk]
      simp [e1, hlen, i0]
    | a :: b :: r =>
      have : ¬ ((r.length : Int) + 1 + 1 = 1) := by omega
      have hk : kindW zs = none := by unfold kindW; rw [hp]
      rw [hk]
      simp [e1, hlen, i0, this]
  | [] =>
    rw [hp] at e1
    have hk : kindW zs = none := kindW_none (by rw [hp]; simp)
    rw [hk]
    simp [e1, hlen]
  | [a] =>
    rw [hp] at e1
    have hk : kindW zs = none := kindW_none (by rw [hp]; simp)
    rw [hk]
    simp [e1, hlen]
  | [a, b] =>
    rw [hp] at e1
    have hk : kindW zs = none := kindW_none (by rw [hp]; simp)
    rw [hk]
    simp [e1, hlen]
  | a :: b :: c :: d :: r =>
    rw [hp] at e1
    have : ¬ ((r.length : Int) + 1 + 1 + 1 + 1 = 3) := by omega
    have hk : kindW zs = none := kindW_none (by rw [hp]; simp)
    rw [hk]
    simp [e1, hlen, this]
end KN

set_option Elab.async false
set_option linter.all false
set_option maxRecDepth 100000
set_option maxHeartbeats 4000000
namespace KN
open PySem PySem.Spec PyProof.Rows L2 Evl DD
/-! N4: the law's own way to read a kind -/
theorem range1_eq (n : Nat) : rangeD 0 n = (List.range n).map fun (i : Nat) => D.int (i : Int) := by
  unfold rangeD
  apply List.map_congr_left
  intro i _
  show D.int (0 + (i : Int)) = D.int ((i : Nat) : Int)
  congr 2
  omega
theorem ix_strs {zs : List Str} {k : Nat} (hk : k < zs.length) : ixD (.lst (zs.map .str)) (.val (.int (k : Int))) = some (.str zs[k]) := by
  rw [ix_get (ds := zs.map D.str) (by rw [List.length_map]; exact hk), List.getElem_map]
theorem lc_marks {zs : List Str} {s : Str} {n : Nat} {ρ : DEnv} (he : ∀ d, mVar 0 (ρ.set n (.pu d)) = some (.lst (zs.map .str))) (hk : ∀ d, mVar n (ρ.set n (.pu d)) = some d) :
    lcL (gN n) (mTest (mOp eqP (mOp ixD (mVar 0) (mVar n)) (mC (.str s)))) (mVar n) ρ ((List.range zs.length).map fun (i : Nat) => D.int (i : Int)) = some ((marksW s zs).map fun (k : Nat) => D.int (k : Int)) := by
  have := lc_gen (set := gN n) (cond := mTest (mOp eqP (mOp ixD (mVar 0) (mVar n)) (mC (.str s)))) (elt := mVar n) (ρ := ρ)
    (p := fun d => match d with
      | .val (.int i) => decide (zs[i.toNat]? = some s)
      | _ => false) (g := id) (ds := (List.range zs.length).map fun (i : Nat) => D.int (i : Int)) fun d hd => by
    obtain ⟨i, hi, rfl⟩ := List.mem_map.mp hd
    rw [List.mem_range] at hi
    refine ⟨_, rfl, ?_, fun _ => hk _⟩
    simp only [e_test, e_op, he, hk, Option.bind_some, ix_strs hi, e_C, eqP_str, e_asB]
    show some (decide (zs[i] = s)) = some (decide (zs[(i : Int).toNat]? = some s))
    rw [Int.toNat_natCast, List.getElem?_eq_getElem hi]
    simp
  rw [this, List.map_id, List.filter_map]
  rfl
theorem sl_from {zs : List D} {a : Nat} : slD (.lst zs) (some (a : Int)) none = some (.lst (zs.drop a)) := by
  show some (D.lst (DD.cutD zs (some (a : Int)) none)) = _
  congr 2
  unfold DD.cutD
  rw [HT.sIx_nat, HT.sIx_none, List.take_of_length_le (by simp)]
  by_cases h : a ≤ zs.length
  · rw [Nat.min_eq_left h]
  · rw [List.drop_eq_nil_of_le (by omega), List.drop_eq_nil_of_le (by omega)]
theorem sl_mid {zs : List D} {a b : Nat} (ha : a ≤ b) (hb : b ≤ zs.length) : slD (.lst zs) (some (a : Int)) (some (b : Int)) = some (.lst ((zs.drop a).take (b - a))) := by
  show some (D.lst (DD.cutD zs (some (a : Int)) (some (b : Int)))) = _
  unfold DD.cutD
  rw [HT.sIx_nat, HT.sIx_nat, Nat.min_eq_left hb, Nat.min_eq_left (Nat.le_trans ha hb)]
theorem lawKind_few {F : List D → Option D} {ds : List D} {x : D} {r : DEnv} (h : ds.length ≠ 2) :
    mOr (mTest (mOp neP (mCall lenD (mCons (mVar 1) mNil)) (mC (.int 2)))) (mOr (mTest (mOp neP (mOp ixD (mVar 1) (mC (.int 0))) (mC (.int 1)))) (mNot (mTru (mCall F (mCons (mOp ixD (mVar 0) (mC (.int 0))) mNil))))) (.pu x :: .pu (.lst ds) :: r) = some true := by
  have : ¬ ((ds.length : Int) = 2) := by omega
  simp [this]
theorem lawKind_two {F : List D → Option D} {a b : Int} {x : D} {r : DEnv} (h : a ≠ 1) :
    mOr (mTest (mOp neP (mCall lenD (mCons (mVar 1) mNil)) (mC (.int 2)))) (mOr (mTest (mOp neP (mOp ixD (mVar 1) (mC (.int 0))) (mC (.int 1)))) (mNot (mTru (mCall F (mCons (mOp ixD (mVar 0) (mC (.int 0))) mNil))))) (.pu x :: .pu (.lst [.int a, .int b]) :: r) = some true := by
  simp [h]
theorem lawKind_lab {F : List D → Option D} {b : Int} {l : Str} {zs : List D} {r : DEnv} {k : Bool} (h : F [.str l] = some (.bl k)) :
    mOr (mTest (mOp neP (mCall lenD (mCons (mVar 1) mNil)) (mC (.int 2)))) (mOr (mTest (mOp neP (mOp ixD (mVar 1) (mC (.int 0))) (mC (.int 1)))) (mNot (mTru (mCall F (mCons (mOp ixD (mVar 0) (mC (.int 0))) mNil))))) (.pu (.lst (.str l :: zs)) :: .pu (.lst [.int 1, .int b]) :: r) = some (!k) := by
  simp [h]
theorem lawKind_end {F : List D → Option D} {zs : List D} {l : Str} {b : Int} {r t : List Str} (s1 : slD (.lst (.str l :: zs)) (some 2) (some b) = some (.lst (r.map .str))) (s2 : slD (.lst (.str l :: zs)) (some (b + 1)) none = some (.lst (t.map .str))) (a1 : F [.lst (r.map .str)] = some (optD tupI (atomsW r))) (a2 : F [.lst (t.map .str)] = some (optD tupI (atomsW t))) :
    (mSeq (mPar 2 3 (mCons (mCall F (mCons (mSl slD (mVar 0) (mPart (mC (.int 2))) (mPart (mOp ixD (mVar 1) (mC (.int 1))))) mNil)) (mCons (mCall F (mCons (mSl slD (mVar 0) (mPart (mOp addD (mOp ixD (mVar 1) (mC (.int 1))) (mC (.int 1)))) mNoPart) mNil)) mNil))) (mSeq (mIfS (mOr (mTest (mOp isND (mVar 2) (mC .non))) (mTest (mOp isND (mVar 3) (mC .non)))) (mRet (mC .non)) mNext) (mRet (mTup (mCons (mOp ixD (mVar 0) (mC (.int 0))) (mCons (mVar 2) (mCons (mVar 3) mNil))))))) [.pu (.lst (.str l :: zs)), .pu (.lst [.int 1, .int b]), .un, .un, .un] = some (.rt (optD kindD ((atomsW r).bind fun a => (atomsW t).map fun b => (l, a, b)))) := by
  cases ha : atomsW r with
  | none =>
    rw [ha] at a1
    cases hb : atomsW t <;> rw [hb] at a2 <;> simp [ix1, s1, s2, a1, a2, tupI]
  | some as =>
    rw [ha] at a1
    cases hb : atomsW t <;> rw [hb] at a2 <;> simp [ix1, s1, s2, a1, a2, tupI, kindD]
theorem F_lawKind_ok {zs : List Str} (hl : zs.length ≤ 1000001) (hz : ∀ z ∈ zs, small z) : F__law_kind_told [.lst (zs.map .str)] = some (optD kindD (kindW zs)) := by
  refine F_of rfl ?_
  show m__law_kind_told [.pu (.lst (zs.map .str)), .un, .un, .un, .un] = _
  unfold m__law_kind_told
  have e0 : mRange1 (mCons (mCall lenD (mCons (mVar 0) mNil)) mNil) [.pu (.lst (zs.map .str)), .un, .un, .un, .un] = some ((List.range zs.length).map fun (i : Nat) => D.int (i : Int)) := by
    rw [e_range1 (a := (zs.length : Int)) (by simp) (by omega), ← range1_eq, Int.toNat_natCast]
  have hr : ((List.range zs.length).map fun (i : Nat) => D.int (i : Int)).length ≤ 10000000 := by
    rw [List.length_map, List.length_range]
    omega
  have e1 := lc_marks (zs := zs) (s := ":") (n := 4) (ρ := [.pu (.lst (zs.map .str)), .un, .un, .un, .un]) (fun _ => by simp) (fun _ => by simp)
  have hA : ∀ y : List Str, y.length ≤ 1000001 → (∀ z ∈ y, small z) → F__law_atoms_told [.lst (y.map .str)] = some (optD tupI (atomsW y)) := fun y h1 h2 => F_lawAtoms_ok h1 h2
  have hL : ∀ z : Str, small z → F__law_is_label [.str z] = some (.bl (isLab z)) := fun z h => F_lawLabel_str (big_of' h)
  generalize F__law_atoms_told = FA at hA ⊢
  generalize F__law_is_label = FL at hL ⊢
  simp only [e_seq, e_asg, e_lst, e_lc, e0, Option.bind_some, if_pos hr, e_wipe1, e_wipe0, e_set4, e1, Option.map_some, e_set1]
  rcases cut_or ":" zs with h1 | ⟨p, q, rfl, h1⟩
  · rw [marks_none h1, kindW_none (by rw [partsW_none h1]; simp), e_ifS, lawKind_few (by simp)]
    rfl
  · rcases cut_or ":" q with h2 | ⟨r, t, rfl, h2⟩
    · rw [marks_cut h1, marks_none h2, kindW_none (by rw [partsW_cut h1, partsW_none h2]; simp), e_ifS, lawKind_few (by simp)]
      rfl
    · rcases cut_or ":" t with h3 | ⟨u, v, rfl, h3⟩
      · rw [marks_cut h1, marks_cut h2, marks_none h3]
        have hp : partsW ":" (p ++ (":" : Str) :: (r ++ (":" : Str) :: t)) = [p, r, t] := by rw [partsW_cut h1, partsW_cut h2, partsW_none h3]
        have hs := parts_small (s := ":") hl hz
        rw [hp] at hs
        obtain ⟨n1, n2⟩ := hs r (by simp)
        obtain ⟨b1, b2⟩ := hs t (by simp)
        obtain ⟨_, l2⟩ := hs p (by simp)
        clear e0 hr e1 hl hz hs
        rcases p with _ | ⟨l, _ | ⟨b, p⟩⟩
        · have hk : kindW ([] ++ (":" : Str) :: (r ++ (":" : Str) :: t)) = none := by unfold kindW; rw [hp]
          rw [hk]
          have hm : ((([] : List Str).length :: (r.length :: ([] : List Nat).map fun k => k + (r.length + 1)).map (fun k => k + (([] : List Str).length + 1))).map (fun (k : Nat) => D.int (k : Int))) = [.int 0, .int ((r.length : Int) + 1)] := by simp
          rw [hm, e_ifS, lawKind_two (by decide)]
          rfl
        rotate_left
        · have hk : kindW ((l :: b :: p) ++ (":" : Str) :: (r ++ (":" : Str) :: t)) = none := by unfold kindW; rw [hp]
          rw [hk]
          have hm : (((l :: b :: p).length :: (r.length :: ([] : List Nat).map fun k => k + (r.length + 1)).map (fun k => k + ((l :: b :: p).length + 1))).map (fun (k : Nat) => D.int (k : Int))) = [.int (((l :: b :: p).length : Nat) : Int), .int (((r.length + ((l :: b :: p).length + 1)) : Nat) : Int)] := by simp
          have hne : (((l :: b :: p).length : Nat) : Int) ≠ 1 := by
            rw [List.length_cons, List.length_cons]
            omega
          rw [hm, e_ifS, lawKind_two hne]
          rfl
        · have e2 := hL l (l2 l (by simp))
          have a1 := hA r n1 n2
          have a2 := hA t b1 b2
          have s1 : slD (.lst (([l] ++ (":" : Str) :: (r ++ (":" : Str) :: t)).map .str)) (some 2) (some ((r.length : Int) + 2)) = some (.lst (r.map .str)) := by
            have := sl_mid (zs := ([l] ++ (":" : Str) :: (r ++ (":" : Str) :: t)).map D.str) (a := 2) (b := r.length + 2) (by omega) (by simp)
            rw [show (((r.length + 2 : Nat)) : Int) = (r.length : Int) + 2 by omega] at this
            refine this.trans ?_
            simp
          have s2 : slD (.lst (([l] ++ (":" : Str) :: (r ++ (":" : Str) :: t)).map .str)) (some ((r.length : Int) + 2 + 1)) none = some (.lst (t.map .str)) := by
            have := sl_from (zs := ([l] ++ (":" : Str) :: (r ++ (":" : Str) :: t)).map D.str) (a := r.length + 3)
            rw [show (((r.length + 3 : Nat)) : Int) = (r.length : Int) + 2 + 1 by omega] at this
            refine this.trans ?_
            simp [List.drop_append]
          have hm : ([([l] : List Str).length] ++ (r.length :: ([] : List Nat).map fun k => k + (r.length + 1)).map (fun k => k + (([l] : List Str).length + 1))).map (fun (k : Nat) => D.int (k : Int)) = [.int 1, .int ((r.length : Int) + 2)] := by simp
          have hm' : (([l] : List Str).length :: (r.length :: ([] : List Nat).map fun k => k + (r.length + 1)).map (fun k => k + (([l] : List Str).length + 1))).map (fun (k : Nat) => D.int (k : Int)) = [.int 1, .int ((r.length : Int) + 2)] := hm
          rw [hm', e_ifS]
          have c := lawKind_lab (F := FL) (b := (r.length : Int) + 2) (zs := ((":" : Str) :: (r ++ (":" : Str) :: t)).map D.str) (r := [.un, .un, .un]) e2
          have ee := lawKind_end (zs := ((":" : Str) :: (r ++ (":" : Str) :: t)).map D.str) s1 s2 a1 a2
          have hk : kindW ([l] ++ (":" : Str) :: (r ++ (":" : Str) :: t)) = if isLab l = true then (atomsW r).bind fun a => (atomsW t).map fun b => (l, a, b) else none := by unfold kindW; rw [hp]
          rw [hk]
          cases hL : isLab l with
          | false =>
            rw [hL] at c
            simp only [Bool.not_false] at c
            rw [show (List.map D.str ([l] ++ (":" : Str) :: (r ++ (":" : Str) :: t))) = D.str l :: ((":" : Str) :: (r ++ (":" : Str) :: t)).map D.str from rfl, c, Option.bind_some, if_pos rfl]
            rfl
          | true =>
            rw [hL] at c
            simp only [Bool.not_true] at c
            rw [show (List.map D.str ([l] ++ (":" : Str) :: (r ++ (":" : Str) :: t))) = D.str l :: ((":" : Str) :: (r ++ (":" : Str) :: t)).map D.str from rfl, c, Option.bind_some, if_neg Bool.false_ne_true, e_next, Option.bind_some, if_pos rfl]
            exact ee
      · have hk : kindW (p ++ (":" : Str) :: (r ++ (":" : Str) :: (u ++ (":" : Str) :: v))) = none := kindW_none (by
          rw [partsW_cut h1, partsW_cut h2, partsW_cut h3]
          have := partsW_pos ":" v
          simp
          intro e
          rw [e] at this
          simp at this)
        rw [marks_cut h1, marks_cut h2, marks_cut h3, hk, e_ifS, lawKind_few (by simp)]
        rfl
end KN

set_option Elab.async false
set_option linter.all false
set_option maxRecDepth 100000
set_option maxHeartbeats 4000000
namespace KN
open PySem PySem.Spec PyProof.Rows L2 Evl DD
/-! N5: single steps as equations; the lines of a text, read one by one -/
theorem ev_op {f : D → D → Option D} {ma mb : ME} {ρ : DEnv} {a b : D} (ha : ma ρ = some a) (hb : mb ρ = some b) : mOp f ma mb ρ = f a b := by
  unfold mOp
  rw [ha, hb]
  rfl
theorem ev_test {m : ME} {ρ : DEnv} {d : D} (h : m ρ = some d) : mTest m ρ = asB d := by
  unfold mTest
  rw [h]
  rfl
theorem ev_lst {m : MA} {ρ : DEnv} {ds : List D} (h : m ρ = some ds) : mLst m ρ = some (.lst ds) := by
  unfold mLst
  rw [h]
  rfl
theorem ev_call {F : List D → Option D} {m : MA} {ρ : DEnv} {ds : List D} (h : m ρ = some ds) : mCall F m ρ = F ds := by
  unfold mCall
  rw [h]
  rfl
theorem ev_cons {m : ME} {r : MA} {ρ : DEnv} {d : D} {ds : List D} (h : m ρ = some d) (h2 : r ρ = some ds) : mCons m r ρ = some (d :: ds) := by
  unfold mCons
  rw [h, h2]
  rfl
theorem ev_lc {mi : MA} {f : D → DEnv → Option DEnv} {c : MT} {e : ME} {vs : List Nat} {ρ : DEnv} {ds : List D} (h : mi ρ = some ds) (hl : ds.length ≤ 10000000) : mLc mi f c e vs ρ = lcL f c e (wipeD ρ vs) ds := by
  unfold mLc
  rw [h]
  exact if_pos hl
theorem ev_runF {N : List Str} {n : Nat} {m : MS} {ds : List D} {d : D} (hn : ds.length = n) (h : m (startD N ds) = some (.rt d)) : runF N n m ds = some d := by
  unfold runF
  rw [if_pos hn, h]
theorem ev_ret {m : ME} {ρ : DEnv} {d : D} (h : m ρ = some d) : mRet m ρ = some (.rt d) := by
  unfold mRet
  rw [h]
  rfl
theorem ev_not {t : MT} {ρ : DEnv} {b : Bool} (h : t ρ = some b) : mNot t ρ = some (!b) := by
  unfold mNot
  rw [h]
  rfl
theorem ev_or_t {a b : MT} {ρ : DEnv} (h : a ρ = some true) : mOr a b ρ = some true := by
  unfold mOr
  rw [h]
  rfl
theorem ev_or_f {a b : MT} {ρ : DEnv} (h : a ρ = some false) : mOr a b ρ = b ρ := by
  unfold mOr
  rw [h]
  rfl
theorem ev_and_t {a b : MT} {ρ : DEnv} (h : a ρ = some true) : mAnd a b ρ = b ρ := by
  unfold mAnd
  rw [h]
  rfl
theorem ev_and_f {a b : MT} {ρ : DEnv} (h : a ρ = some false) : mAnd a b ρ = some false := by
  unfold mAnd
  rw [h]
  rfl
theorem ev_if_t {t : MT} {a b : ME} {ρ : DEnv} (h : t ρ = some true) : mIf t a b ρ = a ρ := by
  unfold mIf
  rw [h]
  rfl
theorem ev_if_f {t : MT} {a b : ME} {ρ : DEnv} (h : t ρ = some false) : mIf t a b ρ = b ρ := by
  unfold mIf
  rw [h]
  rfl
theorem ev_ifS_t {t : MT} {a b : MS} {ρ : DEnv} (h : t ρ = some true) : mIfS t a b ρ = a ρ := by
  unfold mIfS
  rw [h]
  rfl
theorem ev_ifS_f {t : MT} {a b : MS} {ρ : DEnv} (h : t ρ = some false) : mIfS t a b ρ = b ρ := by
  unfold mIfS
  rw [h]
  rfl
theorem ev_seq {m n : MS} {ρ ρ' : DEnv} (h : m ρ = some (.nx ρ')) : mSeq m n ρ = n ρ' := by
  unfold mSeq
  rw [h]
  rfl
theorem ev_seq_rt {m n : MS} {ρ : DEnv} {d : D} (h : m ρ = some (.rt d)) : mSeq m n ρ = some (.rt d) := by
  unfold mSeq
  rw [h]
  rfl
theorem ev_seq_ex {m n : MS} {ρ ρ' : DEnv} {C : Addr} {f : Str} {d : D} (h : m ρ = some (.ex C f d ρ')) : mSeq m n ρ = some (.ex C f d ρ') := by
  unfold mSeq
  rw [h]
  rfl
theorem ev_asg {i : Nat} {m : ME} {ρ : DEnv} {d : D} (h : m ρ = some d) : mAsg i m ρ = some (.nx (ρ.set i (.pu d))) := by
  unfold mAsg
  rw [h]
  rfl
theorem ev_tru {m : ME} {ρ : DEnv} {d : D} (h : m ρ = some d) : mTru m ρ = truD d := by
  unfold mTru
  rw [h]
  rfl
theorem ev_runX {N : List Str} {n : Nat} {m : MS} {ds : List D} {d : D} (hn : ds.length = n) (h : m (startD N ds) = some (.rt d)) : runX N n m ds = some (.ok d) := by
  unfold runX
  rw [if_pos hn, h]
theorem ev_runXx {N : List Str} {n : Nat} {m : MS} {ds : List D} {C : Addr} {f : Str} {x : D} {ρ : DEnv} (hn : ds.length = n) (h : m (startD N ds) = some (.ex C f x ρ)) : runX N n m ds = some (.ex C f x) := by
  unfold runX
  rw [if_pos hn, h]
theorem ev_asgX {i : Nat} {m : MX} {ρ : DEnv} {d : D} (h : m ρ = some (.ok d)) : mAsgX i m ρ = some (.nx (ρ.set i (.pu d))) := by
  unfold mAsgX
  rw [h]
  rfl
theorem ev_asgXx {i : Nat} {m : MX} {ρ : DEnv} {C : Addr} {f : Str} {x : D} (h : m ρ = some (.ex C f x)) : mAsgX i m ρ = some (.ex C f x ρ) := by
  unfold mAsgX
  rw [h]
  rfl
theorem ev_retX {m : MX} {ρ : DEnv} {d : D} (h : m ρ = some (.ok d)) : mRetX m ρ = some (.rt d) := by
  unfold mRetX
  rw [h]
  rfl
theorem ev_retXx {m : MX} {ρ : DEnv} {C : Addr} {f : Str} {x : D} (h : m ρ = some (.ex C f x)) : mRetX m ρ = some (.ex C f x ρ) := by
  unfold mRetX
  rw [h]
  rfl
theorem ev_callX {F : List D → Option Res} {m : MA} {ρ : DEnv} {ds : List D} (h : m ρ = some ds) : mCallX F m ρ = F ds := by
  unfold mCallX
  rw [h]
  rfl
def resX (C : Addr) : Except Nat D → Res
  | .ok d => .ok d
  | .error k => .ex C "line" (.int (k : Int))
def noteX : Except Nat D → D
  | .ok d => d
  | .error k => .tup [.str "bad", .int (k : Int)]
theorem F_words_ok {z : Str} (h : small z) : F_words_of [.str z] = some (.lst ((Txt.split z " ").map .str)) := by
  refine ev_runF rfl (ev_ret ?_)
  show splitD (.str z) [.str " "] = _
  exact splitD_ok tl_sp (big_of h)
theorem F_lines_ok {z : Str} (h : small z) : F_lines_of [.str z] = some (.lst ((Txt.split z "\n").map .str)) := by
  refine ev_runF rfl (ev_ret ?_)
  show splitD (.str z) [.str "\n"] = _
  exact splitD_ok tl_nl (big_of h)
theorem enum_step (i : Nat) (l : Str) (r : List Str) : zipD ((List.range' i (l :: r).length).map fun (i : Nat) => D.int (i : Int)) ((l :: r).map D.str) = .tup [.int (i : Int), .str l] :: zipD ((List.range' (i + 1) r.length).map fun (i : Nat) => D.int (i : Int)) (r.map D.str) := rfl
theorem enum_eq (ls : List Str) : enumD (ls.map D.str) = zipD ((List.range' 0 ls.length).map fun (i : Nat) => D.int (i : Int)) (ls.map D.str) := by
  unfold enumD rangeD
  rw [List.length_map, List.range_eq_range']
  simp
theorem ev_dropX {m : MX} {ρ : DEnv} {d : D} (h : m ρ = some (.ok d)) : mDropX m ρ = some (.nx ρ) := by
  unfold mDropX
  rw [h]
  rfl
theorem ev_dropXx {m : MX} {ρ : DEnv} {C : Addr} {f : Str} {x : D} (h : m ρ = some (.ex C f x)) : mDropX m ρ = some (.ex C f x ρ) := by
  unfold mDropX
  rw [h]
  rfl
/-- what the lines give, or the first line that gives nothing -/
def runL {α : Type} (g : Str → Option α) : Nat → List Str → Except Nat (List α)
  | _, [] => .ok []
  | i, l :: r => match g l with
    | none => .error i
    | some d => match runL g (i + 1) r with
      | .ok ds => .ok (d :: ds)
      | .error k => .error k
theorem runL_len {α : Type} {g : Str → Option α} : ∀ {ls : List Str} {i : Nat} {ds : List α}, runL g i ls = .ok ds → ds.length = ls.length
  | [], i, ds, h => by cases h; rfl
  | l :: r, i, ds, h => by
    unfold runL at h
    split at h
    · cases h
    · split at h
      · rename_i e
        cases h
        simp [runL_len e]
      · cases h
abbrev mLineB (Tb : Addr → Option (List D → Option D)) (C : Addr) : MS := mSeq (mAsg 5 (mCallA 1 Tb (mCons (mVar 4) mNil))) (mSeq (mIfS (mTest (mOp isND (mVar 5) (mC .non))) (mRaise C "line" (mVar 3)) mNext) (mApp 2 (mVar 5)))
section
variable {α : Type} {t : α → D} {Tb : Addr → Option (List D → Option D)} {C f : Addr} {F : List D → Option D} {g : Str → Option α}
theorem line_step (hF : Tb f = some F) (hg : ∀ l, small l → F [.str l] = some (optD t (g l))) (ht : ∀ a, isNonD (t a) = false) {z l : Str} {i : Nat} {acc : List D} {u : DE} (hs : small l) (hb : acc.length < big) :
    mLineB Tb C [.pu (.str z), .pu (.ref f), .ow acc, .pu (.int (i : Int)), .pu (.str l), u] = some (match g l with
      | none => .ex C "line" (.int (i : Int)) [.pu (.str z), .pu (.ref f), .ow acc, .pu (.int (i : Int)), .pu (.str l), .pu .non]
      | some a => .nx [.pu (.str z), .pu (.ref f), .ow (acc ++ [t a]), .pu (.int (i : Int)), .pu (.str l), .pu (t a)]) := by
  have e0 : mCallA 1 Tb (mCons (mVar 4) mNil) [.pu (.str z), .pu (.ref f), .ow acc, .pu (.int (i : Int)), .pu (.str l), u] = some (optD t (g l)) := by
    show (Tb f).bind (fun F => F [.str l]) = _
    rw [hF]
    exact hg l hs
  have e1 : mLineB Tb C [.pu (.str z), .pu (.ref f), .ow acc, .pu (.int (i : Int)), .pu (.str l), u] = (mSeq (mIfS (mTest (mOp isND (mVar 5) (mC .non))) (mRaise C "line" (mVar 3)) mNext) (mApp 2 (mVar 5))) [.pu (.str z), .pu (.ref f), .ow acc, .pu (.int (i : Int)), .pu (.str l), .pu (optD t (g l))] := ev_seq (ev_asg e0)
  rw [e1]
  cases hgl : g l with
  | none => exact ev_seq_ex ((ev_ifS_t rfl).trans rfl)
  | some a =>
    have hq : mTest (mOp isND (mVar 5) (mC .non)) [.pu (.str z), .pu (.ref f), .ow acc, .pu (.int (i : Int)), .pu (.str l), .pu (t a)] = some false := by
      simp [ht]
    refine (ev_seq ((ev_ifS_f hq).trans rfl)).trans ?_
    show (if acc.length < big then some (Out.nx [.pu (.str z), .pu (.ref f), .ow (acc ++ [t a]), .pu (.int (i : Int)), .pu (.str l), .pu (t a)]) else none) = _
    rw [if_pos hb]
theorem for_lines (hF : Tb f = some F) (hg : ∀ l, small l → F [.str l] = some (optD t (g l))) (ht : ∀ a, isNonD (t a) = false) (z : Str) : ∀ (ls : List Str) (i : Nat) (acc : List D) (x y u : DE), acc.length + ls.length ≤ big → (∀ l ∈ ls, small l) →
    (∀ ds, runL g i ls = .ok ds → ∃ x' y' u', forL (gT [3, 4]) (mLineB Tb C) (zipD ((List.range' i ls.length).map fun (i : Nat) => D.int (i : Int)) (ls.map D.str)) [.pu (.str z), .pu (.ref f), .ow acc, x, y, u] = some (.nx [.pu (.str z), .pu (.ref f), .ow (acc ++ ds.map t), x', y', u'])) ∧
    (∀ k, runL g i ls = .error k → ∃ ρ, forL (gT [3, 4]) (mLineB Tb C) (zipD ((List.range' i ls.length).map fun (i : Nat) => D.int (i : Int)) (ls.map D.str)) [.pu (.str z), .pu (.ref f), .ow acc, x, y, u] = some (.ex C "line" (.int (k : Int)) ρ))
  | [], i, acc, x, y, u, hl, hs => ⟨fun ds h => by cases h; exact ⟨x, y, u, by simp only [List.map_nil, List.append_nil]; rfl⟩, fun k h => by cases h⟩
  | l :: r, i, acc, x, y, u, hl, hs => by
    rw [enum_step]
    have hb : acc.length < big := by simp at hl; omega
    have e := line_step (C := C) (z := z) (i := i) (u := u) hF hg ht (hs l List.mem_cons_self) hb
    have h1 : gT [3, 4] (D.tup [.int (i : Int), .str l]) [.pu (.str z), .pu (.ref f), .ow acc, x, y, u] = some [.pu (.str z), .pu (.ref f), .ow acc, .pu (.int (i : Int)), .pu (.str l), u] := rfl
    cases hgl : g l with
    | none =>
      rw [hgl] at e
      refine ⟨fun ds h => ?_, fun k h => ?_⟩
      · unfold runL at h
        rw [hgl] at h
        cases h
      · unfold runL at h
        rw [hgl] at h
        cases h
        exact ⟨_, for_cons_ex h1 e⟩
    | some d =>
      rw [hgl] at e
      obtain ⟨i1, i2⟩ := for_lines hF hg ht z r (i + 1) (acc ++ [t d]) (.pu (.int (i : Int))) (.pu (.str l)) (.pu (t d)) (by simp at hl ⊢; omega) (fun l hm => hs l (List.mem_cons_of_mem _ hm))
      refine ⟨fun ds h => ?_, fun k h => ?_⟩
      · unfold runL at h
        rw [hgl] at h
        dsimp only at h
        split at h
        · rename_i ds' e2
          cases h
          obtain ⟨x', y', t', e'⟩ := i1 ds' e2
          refine ⟨x', y', t', (for_cons_nx h1 e).trans ?_⟩
          rw [List.append_assoc, List.singleton_append] at e'
          exact e'
        · cases h
      · unfold runL at h
        rw [hgl] at h
        dsimp only at h
        split at h
        · cases h
        · rename_i k' e2
          cases h
          obtain ⟨ρ, e'⟩ := i2 k e2
          exact ⟨ρ, (for_cons_nx h1 e).trans e'⟩
def resL (t : α → D) (C : Addr) : Except Nat (List α) → Res
  | .ok ds => .ok (.lst (ds.map t))
  | .error k => .ex C "line" (.int (k : Int))
theorem lines_big {z : Str} (h : small z) : (Txt.split z "\n").length ≤ big := by
  have := cut_many (z := z) tl_nl (by decide) h
  rw [big_eq]
  omega
theorem F_readLines_ok (hF : Tb f = some F) (hg : ∀ l, small l → F [.str l] = some (optD t (g l))) (ht : ∀ a, isNonD (t a) = false) {z : Str} (h : small z) :
    F_read_lines Tb C [.str z, .ref f] = some (resL t C (runL g 0 (Txt.split z "\n"))) := by
  have hb := lines_big h
  obtain ⟨i1, i2⟩ := for_lines (C := C) hF hg ht z (Txt.split z "\n") 0 [] .un .un .un (by simpa using hb) (small_cut tl_nl (by decide) h)
  have e0 : mEnum (mCons (mCall F_lines_of (mCons (mVar 0) mNil)) mNil) [.pu (.str z), .pu (.ref f), .ow [], .un, .un, .un] = some (zipD ((List.range' 0 (Txt.split z "\n").length).map fun (i : Nat) => D.int (i : Int)) ((Txt.split z "\n").map D.str)) := by
    unfold mEnum
    rw [ev_cons ((ev_call (ev_cons rfl rfl)).trans (F_lines_ok h)) rfl]
    show some (enumD _) = _
    rw [enum_eq]
  have e1 : m_read_lines Tb C [.pu (.str z), .pu (.ref f), .un, .un, .un, .un] = (mSeq (mFor (mEnum (mCons (mCall F_lines_of (mCons (mVar 0) mNil)) mNil)) (gT [3, 4]) (mLineB Tb C)) (fun ρ => (mRet (mVar 2)) (frz 2 ρ))) [.pu (.str z), .pu (.ref f), .ow [], .un, .un, .un] := rfl
  have e2 : mFor (mEnum (mCons (mCall F_lines_of (mCons (mVar 0) mNil)) mNil)) (gT [3, 4]) (mLineB Tb C) [.pu (.str z), .pu (.ref f), .ow [], .un, .un, .un] =
      forL (gT [3, 4]) (mLineB Tb C) (zipD ((List.range' 0 (Txt.split z "\n").length).map fun (i : Nat) => D.int (i : Int)) ((Txt.split z "\n").map D.str)) [.pu (.str z), .pu (.ref f), .ow [], .un, .un, .un] := by
    unfold mFor
    rw [e0]
    rfl
  cases hr : runL g 0 (Txt.split z "\n") with
  | ok ds =>
    obtain ⟨x, y, u, e3⟩ := i1 ds hr
    refine ev_runX rfl ?_
    show m_read_lines Tb C [.pu (.str z), .pu (.ref f), .un, .un, .un, .un] = _
    rw [e1, ev_seq (e2.trans e3)]
    rfl
  | error k =>
    obtain ⟨ρ, e3⟩ := i2 k hr
    refine ev_runXx (ρ := ρ) rfl ?_
    show m_read_lines Tb C [.pu (.str z), .pu (.ref f), .un, .un, .un, .un] = _
    rw [e1, ev_seq_ex (e2.trans e3)]
def outA (g : Str → Option α) (z : Str) : Except Nat (List α) := if z = "" then .ok [] else runL g 0 (Txt.split z "\n")
theorem F_readAny_ok (hF : Tb f = some F) (hg : ∀ l, small l → F [.str l] = some (optD t (g l))) (ht : ∀ a, isNonD (t a) = false) {z : Str} (h : small z) :
    F_read_any Tb C [.str z, .ref f] = some (resL t C (outA g z)) := by
  have e0 : mTest (mOp eqP (mVar 0) (mC (.str ""))) [.pu (.str z), .pu (.ref f)] = some (decide (z = "")) := by
    simp only [e_test, e_op, e_var0, e_C, Option.bind_some, eqP_str, e_asB]
  have e : mCallX (F_read_lines Tb C) (mCons (mVar 0) (mCons (mVar 1) mNil)) [.pu (.str z), .pu (.ref f)] = some (resL t C (runL g 0 (Txt.split z "\n"))) := (ev_callX (ev_cons rfl (ev_cons rfl rfl))).trans (F_readLines_ok hF hg ht h)
  have e2 : mIfX (mTest (mOp eqP (mVar 0) (mC (.str "")))) (mOk (mLst (few mNil))) (mCallX (F_read_lines Tb C) (mCons (mVar 0) (mCons (mVar 1) mNil))) [.pu (.str z), .pu (.ref f)] = some (resL t C (outA g z)) := by
    unfold mIfX
    rw [e0]
    by_cases hz : z = ""
    · subst hz
      rfl
    · rw [decide_eq_false hz]
      refine e.trans ?_
      unfold outA
      rw [if_neg hz]
  cases ho : outA g z with
  | ok d =>
    rw [ho] at e2
    exact ev_runX rfl (ev_retX e2)
  | error k =>
    rw [ho] at e2
    exact ev_runXx rfl (ev_retXx e2)
end
end KN

set_option Elab.async false
set_option linter.all false
set_option maxRecDepth 100000
set_option maxHeartbeats 4000000
namespace KN
open PySem PySem.Spec PyProof.Rows L2 Evl DD PySem.W
/-! N6: kinds are keys -/
def kindP (k : Kind) : PyData := .tuple [.str k.1, .tuple (k.2.1.map .int), .tuple (k.2.2.map .int)]
theorem pd_tupI (ns : List Int) : pd (tupI ns) = some (.tuple (ns.map .int)) := by
  show (pds (ns.map D.int)).map PyData.tuple = _
  rw [pds_map (fun _ => rfl) ns]
  rfl
theorem pd_kind (k : Kind) : pd (kindD k) = some (kindP k) := by
  show ((pd (.str k.1)).bind fun p => (((pd (tupI k.2.1)).bind fun q => (((pd (tupI k.2.2)).bind fun r => some [r]).map (q :: ·))).map (p :: ·))).map PyData.tuple = _
  rw [pd_tupI, pd_tupI]
  rfl
theorem alike_kind (a b : Kind) : alike (kindP a) (kindP b) = true := by
  unfold kindP
  simp [alike, alikeAll, alike_ints]
theorem depth_kind (k : Kind) : (kindP k).depth = 2 := by
  unfold kindP
  simp [PyData.depth, PyData.depthAll, depth_ints]
theorem ltC_kind (a b : Kind) : ltC (kindP a) (kindP b) = true := by
  unfold ltC fitP
  rw [alike_kind, depth_kind, depth_kind]
  rfl
theorem keys_of {α : Type} {t : α → D} {u : α → PyData} (h : ∀ a, pd (t a) = some (u a)) (hc : ∀ a b, ltC (u a) (u b) = true) (as : List α) : Keys (as.map t) (as.map u) := by
  refine ⟨pds_map h as, fun a ha b hb => ?_⟩
  obtain ⟨i, _, rfl⟩ := List.mem_map.mp ha
  obtain ⟨j, _, rfl⟩ := List.mem_map.mp hb
  exact hc i j
theorem keys_kinds (ks : List Kind) : Keys (ks.map kindD) (ks.map kindP) := keys_of pd_kind ltC_kind ks
end KN

set_option Elab.async false
set_option linter.all false
set_option maxRecDepth 100000
set_option maxHeartbeats 4000000
namespace KN
open PySem PySem.Spec PyProof.Rows L2 Evl DD
/-! N7: a kind's line; the keys checked -/
theorem optN_non (o : Option Nat) : isNonD (optN o) = o.isNone := by
  cases o <;> rfl
theorem F_check_ok {C : Addr} {ds : List D} {ps : List PyData} (k : Keys ds ps) (hl : ds.length ≤ 10000000) (b : Int) :
    F_check_ascending C [.lst ds, .int b] = some (match fallAt 1 ps with
      | none => .ok .non
      | some n => .ex C "line" (.int ((n : Int) + b))) := by
  have e := F_fallen_ok k hl
  have e1 : m_check_ascending C [.pu (.lst ds), .pu (.int b), .un] = (mIfS (mTest (mOp notND (mVar 2) (mC .non))) (mRaise C "line" (mOp addD (mVar 2) (mVar 1))) mNext) [.pu (.lst ds), .pu (.int b), .pu (optN (fallAt 1 ps))] := ev_seq (ev_asg ((ev_call (ev_cons rfl rfl)).trans e))
  have e2 : mTest (mOp notND (mVar 2) (mC .non)) [.pu (.lst ds), .pu (.int b), .pu (optN (fallAt 1 ps))] = some (!(fallAt 1 ps).isNone) := by
    simp only [e_test, e_op, e_var2, e_C, Option.bind_some, e_notN, e_asB, optN_non]
  cases hf : fallAt 1 ps with
  | none =>
    rw [hf] at e1 e2
    exact X_nx rfl (e1.trans ((ev_ifS_f e2).trans rfl))
  | some n =>
    rw [hf] at e1 e2
    refine X_ex (ρ := [.pu (.lst ds), .pu (.int b), .pu (optN (some n))]) rfl (e1.trans ((ev_ifS_t e2).trans rfl))
/-- what a list of kinds told as text is -/
def outD {α : Type} (t : α → D) : Except Nat α → Except Nat D
  | .ok a => .ok (t a)
  | .error k => .error k
theorem outA_len {α : Type} {g : Str → Option α} {z : Str} {as : List α} (h : small z) (e : outA g z = .ok as) : as.length ≤ 1000001 := by
  unfold outA at e
  split at e
  · cases e
    exact Nat.zero_le _
  · rw [runL_len e]
    exact cut_many tl_nl (by decide) h
section
variable {C : Addr}

theorem note_ok {F : List D → Option Res} {z : Str} {o : Except Nat D} (hF : F [.str z] = some (resX C o)) :
    mNote 1 C "line" "bad" (mCallX F (mCons (mVar 0) mNil)) [.pu (.str z), .un] = some (.rt (noteX o)) := by
  have e : mCallX F (mCons (mVar 0) mNil) [.pu (.str z), .un] = some (resX C o) := (ev_callX (ev_cons rfl rfl)).trans hF
  unfold mNote
  rw [if_pos (by show 1 < 2; decide), e]
  cases o with
  | ok d => rfl
  | error n =>
    show (if C = C ∧ ("line" : Str) = "line" then _ else none) = _
    rw [if_pos ⟨rfl, rfl⟩]
    rfl
end
end KN


set_option Elab.async false
set_option linter.all false
set_option maxRecDepth 100000
set_option maxHeartbeats 4000000
namespace KN
open PySem PySem.Spec PyProof.Rows L2 Evl DD
/-! N9 (as k85's) M10: texts that are put together, bounded and of signs -/
def okC (z : Str) : Prop := ∀ c ∈ tl z, c < 1114112
theorem atI_zero {α : Type} (d : α) (ds : List α) : atI (d :: ds) 0 = some d := by
  have h : ((0 : Int) < ((d :: ds).length : Nat)) := by rw [List.length_cons]; omega
  unfold atI ixN
  rw [if_pos (Int.le_refl 0), if_pos h]
  rfl
structure Ok (n : Nat) (z : Str) : Prop where
  l : z.length ≤ n
  c : okC z
theorem Ok.mono {n m : Nat} {z : Str} (h : Ok n z) (hn : n ≤ m) : Ok m z := ⟨Nat.le_trans h.l hn, h.c⟩
theorem tl_app (x y : Str) : tl (x ++ y) = tl x ++ tl y := TL.tl_append x y
theorem Ok.app {a b : Nat} {x y : Str} (h : Ok a x) (h2 : Ok b y) : Ok (a + b) (x ++ y) := by
  refine ⟨?_, fun c hc => ?_⟩
  · rw [len_tl, tl_app, List.length_append, ← len_tl, ← len_tl]
    exact Nat.add_le_add h.l h2.l
  · rw [tl_app] at hc
    rcases List.mem_append.mp hc with hc | hc
    · exact h.c c hc
    · exact h2.c c hc
theorem Ok.cutS {n : Nat} {z : Str} (h : Ok n z) (lo hi : Option Int) : Ok n (L2.cutS z lo hi) := by
  have e : tl (L2.cutS z lo hi) = ((tl z).drop (HT.sIx z.length 0 lo)).take (HT.sIx z.length z.length hi - HT.sIx z.length 0 lo) := rfl
  refine ⟨?_, fun c hc => ?_⟩
  · rw [len_tl, e]
    have := h.l
    rw [len_tl] at this
    refine Nat.le_trans (List.length_take_le' _ _) ?_
    rw [List.length_drop]
    omega
  · rw [e] at hc
    exact h.c c (List.mem_of_mem_drop (List.mem_of_mem_take hc))
theorem joinL_mem {S : List Nat} {c : Nat} : ∀ {ps : List (List Nat)}, c ∈ TL.joinL S ps → c ∈ S ∨ ∃ p ∈ ps, c ∈ p
  | [], h => by cases h
  | [p], h => .inr ⟨p, by simp, h⟩
  | p :: q :: r, h => by
    have h' : c ∈ p ++ (S ++ TL.joinL S (q :: r)) := h
    rcases List.mem_append.mp h' with h | h
    · exact .inr ⟨p, by simp, h⟩
    · rcases List.mem_append.mp h with h | h
      · exact .inl h
      · rcases joinL_mem h with h | ⟨p', h1, h2⟩
        · exact .inl h
        · exact .inr ⟨p', by simp at h1 ⊢; exact .inr h1, h2⟩
theorem joinL_len {s : Nat} : ∀ ps : List (List Nat), (TL.joinL [s] ps).length ≤ (ps.map fun p => p.length + 1).sum
  | [] => by simp [TL.joinL]
  | [p] => by simp [TL.joinL]
  | p :: q :: r => by
    have ih := joinL_len (s := s) (q :: r)
    show (p ++ ([s] ++ TL.joinL [s] (q :: r))).length ≤ ((p :: q :: r).map fun p => p.length + 1).sum
    rw [List.map_cons, List.sum_cons, List.length_append, List.length_append]
    simp only [List.length_cons, List.length_nil] at ih ⊢
    omega
theorem tl_join (b : Str) (ys : List Str) : tl (Txt.join b ys) = TL.joinL (tl b) (ys.map tl) := by
  rw [TL.join_eq]
  exact TL.tl_join b ys
theorem wt_tl (ys : List Str) : ((ys.map tl).map fun p => p.length + 1).sum = wt ys := by
  unfold wt
  rw [List.map_map]
  refine congrArg List.sum ?_
  apply List.map_congr_left
  intro z _
  exact congrArg (· + 1) (len_tl z).symm
theorem okC_glue {b : Str} {ys : List Str} (hb : okC b) (h : ∀ y ∈ ys, okC y) : okC (Txt.join b ys) := fun c hc => by
  rw [tl_join] at hc
  rcases joinL_mem hc with hc | ⟨p, h1, h2⟩
  · exact hb c hc
  · obtain ⟨y, hy, rfl⟩ := List.mem_map.mp h1
    exact h y hy c h2
theorem Ok.join {b : Str} {s n : Nat} {ys : List Str} (hb : tl b = [s]) (hs : s < 256) (hn : wt ys ≤ n) (h : ∀ y ∈ ys, okC y) : Ok n (Txt.join b ys) := by
  refine ⟨?_, okC_glue (fun c hc => by rw [hb] at hc; simp at hc; omega) h⟩
  rw [len_tl, tl_join, hb]
  refine Nat.le_trans (joinL_len _) ?_
  rw [wt_tl]
  exact hn
theorem okC_sub {x : Str} {i j : Nat} (h : okC x) : okC (Builtin.Str.strSub x i j) := fun c hc => by
  have e : tl (Builtin.Str.strSub x i j) = ((tl x).drop i).take (j - i) := TL.tl_strSub x i j
  rw [e] at hc
  exact h c (List.mem_of_mem_drop (List.mem_of_mem_take hc))
theorem Ok.rep {a c : Nat} {x y z : Str} (hx : Ok a x) (hz : Ok c z) : Ok (a + c) (Txt.replace1 x y z) := by
  refine ⟨Nat.le_trans (replace1_len x y z) (Nat.add_le_add hx.l hz.l), ?_⟩
  unfold Txt.replace1
  split
  · exact hx.c
  · rw [StrLaws.glued_eq_join, ← TL.join_eq]
    refine okC_glue hz.c fun p hp => ?_
    unfold Builtin.Str.partsBetween at hp
    obtain ⟨⟨i, j⟩, _, rfl⟩ := List.mem_map.mp hp
    exact okC_sub hx.c
/-! ### weights -/
theorem wt_append (a b : List Str) : wt (a ++ b) = wt a + wt b := by simp [wt]
theorem wt_cons (a : Str) (b : List Str) : wt (a :: b) = a.length + 1 + wt b := by simp [wt]
theorem wt_take : ∀ (n : Nat) (a : List Str), wt (a.take n) ≤ wt a
  | 0, a => by simp [wt]
  | n + 1, [] => by simp
  | n + 1, z :: a => by
    have := wt_take n a
    rw [List.take_succ_cons, wt_cons, wt_cons]
    omega
theorem wt_drop : ∀ (n : Nat) (a : List Str), wt (a.drop n) ≤ wt a
  | 0, a => by simp
  | n + 1, [] => by simp
  | n + 1, z :: a => by
    have := wt_drop n a
    rw [List.drop_succ_cons, wt_cons]
    omega
theorem wt_rev : ∀ a : List Str, wt a.reverse = wt a
  | [] => rfl
  | z :: a => by
    rw [List.reverse_cons, wt_append, wt_rev a, wt_cons, wt_cons]
    simp [wt]
    omega
theorem wt_sum : ∀ ys : List Str, (ys.map (·.length)).sum + ys.length * 1 = wt ys
  | [] => rfl
  | y :: ys => by
    have := wt_sum ys
    rw [wt_cons, List.map_cons, List.sum_cons, List.length_cons]
    omega
/-! ### readings of texts and lists of texts -/
def Sx (n : Nat) (m : ME) (ρ : DEnv) : Prop := ∃ y, m ρ = some (.str y) ∧ Ok n y
def Lx (n : Nat) (m : ME) (ρ : DEnv) : Prop := ∃ ys : List Str, m ρ = some (.lst (ys.map .str)) ∧ wt ys ≤ n ∧ ∀ y ∈ ys, okC y
def Ax (n c : Nat) (m : MA) (ρ : DEnv) : Prop := ∃ ys : List Str, m ρ = some (ys.map .str) ∧ ys.length = c ∧ ∀ y ∈ ys, Ok n y
section
variable {ρ : DEnv} {m m1 m2 m3 : ME} {a b c n k : Nat} {lo hi : MO}
theorem Sx.mono (h : Sx n m ρ) (hn : n ≤ k) : Sx k m ρ := by
  obtain ⟨y, e, o⟩ := h
  exact ⟨y, e, o.mono hn⟩
theorem sx_add (h1 : Sx a m1 ρ) (h2 : Sx b m2 ρ) (hb : a + b ≤ 100000) : Sx (a + b) (mOp addK m1 m2) ρ := by
  obtain ⟨x, e1, o1⟩ := h1
  obtain ⟨y, e2, o2⟩ := h2
  refine ⟨x ++ y, (ev_op e1 e2).trans (if_pos ?_), o1.app o2⟩
  have := o1.l
  have := o2.l
  rw [big_eq]
  omega
theorem sx_cat (h1 : Sx a m1 ρ) (h2 : Sx b m2 ρ) (hb : a + b ≤ 100000) : Sx (a + b) (mOp catSD m1 m2) ρ := by
  obtain ⟨x, e1, o1⟩ := h1
  obtain ⟨y, e2, o2⟩ := h2
  refine ⟨x ++ y, (ev_op e1 e2).trans (if_pos ?_), o1.app o2⟩
  have := o1.l
  have := o2.l
  rw [big_eq]
  omega
theorem ev_sl {f : D → Option Int → Option Int → Option D} {d : D} {l h : Option Int} (h1 : m ρ = some d) (h2 : lo ρ = some l) (h3 : hi ρ = some h) : mSl f m lo hi ρ = f d l h := by
  unfold mSl
  rw [h1, h2, h3]
  rfl
theorem sx_sl {l h : Option Int} (h1 : Sx a m ρ) (h2 : lo ρ = some l) (h3 : hi ρ = some h) (hb : a ≤ 100000) : Sx a (mSl slKD m lo hi) ρ := by
  obtain ⟨x, e1, o1⟩ := h1
  refine ⟨L2.cutS x l h, (ev_sl e1 h2 h3).trans (if_pos ?_), o1.cutS _ _⟩
  have := o1.l
  rw [big_eq]
  omega
theorem cutD_strs (ys : List Str) (l h : Option Int) : ∃ zs : List Str, DD.cutD (ys.map D.str) l h = zs.map D.str ∧ wt zs ≤ wt ys ∧ ∀ z ∈ zs, z ∈ ys := by
  refine ⟨(ys.drop (HT.sIx ys.length 0 l)).take (HT.sIx ys.length ys.length h - HT.sIx ys.length 0 l), ?_, Nat.le_trans (wt_take _ _) (wt_drop _ _), fun z hz => List.mem_of_mem_drop (List.mem_of_mem_take hz)⟩
  unfold DD.cutD
  rw [List.length_map, List.map_take, List.map_drop]
theorem lx_slK {l h : Option Int} (h1 : Lx a m ρ) (h2 : lo ρ = some l) (h3 : hi ρ = some h) : Lx a (mSl slKD m lo hi) ρ := by
  obtain ⟨ys, e1, w, o⟩ := h1
  obtain ⟨zs, e, w2, s⟩ := cutD_strs ys l h
  refine ⟨zs, (ev_sl e1 h2 h3).trans ?_, Nat.le_trans w2 w, fun z hz => o z (s z hz)⟩
  show some (D.lst (DD.cutD (ys.map D.str) l h)) = _
  rw [e]
theorem lx_sl {l h : Option Int} (h1 : Lx a m ρ) (h2 : lo ρ = some l) (h3 : hi ρ = some h) : Lx a (mSl slD m lo hi) ρ := by
  obtain ⟨ys, e1, w, o⟩ := h1
  obtain ⟨zs, e, w2, s⟩ := cutD_strs ys l h
  refine ⟨zs, (ev_sl e1 h2 h3).trans ?_, Nat.le_trans w2 w, fun z hz => o z (s z hz)⟩
  show some (D.lst (DD.cutD (ys.map D.str) l h)) = _
  rw [e]
theorem lx_rev (h1 : Lx a m ρ) : Lx a (mRev m) ρ := by
  obtain ⟨ys, e1, w, o⟩ := h1
  refine ⟨ys.reverse, ?_, by rw [wt_rev]; exact w, fun y hy => o y (List.mem_reverse.mp hy)⟩
  unfold mRev
  rw [e1]
  show some (D.lst (ys.map D.str).reverse) = _
  rw [List.map_reverse]
theorem lx_add (h1 : Lx a m1 ρ) (h2 : Lx b m2 ρ) (hb : a + b ≤ 100000) : Lx (a + b) (mOp addD m1 m2) ρ := by
  obtain ⟨ys, e1, w1, o1⟩ := h1
  obtain ⟨zs, e2, w2, o2⟩ := h2
  have l1 := wt_len ys
  have l2 := wt_len zs
  refine ⟨ys ++ zs, ?_, by rw [wt_append]; omega, fun y hy => ?_⟩
  · rw [ev_op e1 e2, List.map_append]
    refine if_pos ?_
    rw [List.length_map, List.length_map, big_eq]
    omega
  · rcases List.mem_append.mp hy with hy | hy
    · exact o1 y hy
    · exact o2 y hy
theorem lx_one (h : Sx a m ρ) : Lx (a + 1) (mLst (few (mCons m mNil))) ρ := by
  obtain ⟨y, e, o⟩ := h
  refine ⟨[y], ?_, by have := o.l; simp [wt]; omega, fun z hz => by rw [List.mem_singleton] at hz; rw [hz]; exact o.c⟩
  refine ev_lst ?_
  unfold few
  rw [ev_cons e rfl]
  rfl
theorem ev_meth {f : D → List D → Option D} {mo : ME} {ms : MA} {d : D} {ds : List D} (h1 : mo ρ = some d) (h2 : ms ρ = some ds) : mMeth f mo ms ρ = f d ds := by
  unfold mMeth
  rw [h1, h2]
  rfl
theorem sx_join {b : Str} {s : Nat} (hb : tl b = [s]) (hs : s < 256) (h : Lx n m ρ) (hn : n ≤ 100000) : Sx n (mMeth joinD (mC (.str b)) (mCons m mNil)) ρ := by
  obtain ⟨ys, e, w, o⟩ := h
  refine ⟨Txt.join b ys, (ev_meth rfl (ev_cons e rfl)).trans ?_, Ok.join hb hs w o⟩
  show (strsD (ys.map D.str)).bind (fun ys => if (ys.map (·.length)).sum + ys.length * b.length ≤ big then some (D.str (Txt.join b ys)) else none) = _
  rw [strsD_map]
  refine if_pos ?_
  rw [len_tl b, hb]
  show (ys.map (·.length)).sum + ys.length * 1 ≤ big
  rw [wt_sum, big_eq]
  omega
theorem sx_rep (h1 : Sx a m1 ρ) (h2 : Sx b m2 ρ) (h3 : Sx c m3 ρ) (hb : a + c ≤ 100000) : Sx (a + c) (mMeth repD m1 (mCons m2 (mCons m3 (mCons (mC (.int 1)) mNil)))) ρ := by
  obtain ⟨x, e1, o1⟩ := h1
  obtain ⟨y, e2, o2⟩ := h2
  obtain ⟨z, e3, o3⟩ := h3
  have e4 : mCons (mC (.int 1)) mNil ρ = some [D.int 1] := rfl
  refine ⟨Txt.replace1 x y z, (ev_meth e1 (ev_cons e2 (ev_cons e3 e4))).trans (if_pos ?_), o1.rep o3⟩
  have := o1.l
  have := o3.l
  rw [big_eq]
  omega
theorem ax_nil : Ax n 0 mNil ρ := ⟨[], rfl, rfl, fun _ h => by cases h⟩
theorem ax_cons {ms : MA} (h : Sx a m ρ) (h2 : Ax n k ms ρ) (hn : a ≤ n := by decide) : Ax n (k + 1) (mCons m ms) ρ := by
  obtain ⟨y, e, o⟩ := h
  obtain ⟨ys, e2, l, o2⟩ := h2
  refine ⟨y :: ys, ev_cons e e2, by simp [l], fun z hz => ?_⟩
  rcases List.mem_cons.mp hz with rfl | hz
  · exact o.mono hn
  · exact o2 z hz
theorem ax_few {ms : MA} (h : Ax n k ms ρ) (hk : k ≤ 100 := by decide) : Ax n k (few ms) ρ := by
  obtain ⟨ys, e, l, o⟩ := h
  refine ⟨ys, ?_, l, o⟩
  unfold few
  rw [e]
  refine if_pos ?_
  rw [List.length_map]
  omega
end
end KN

set_option Elab.async false
set_option linter.all false
set_option maxRecDepth 100000
set_option maxHeartbeats 4000000
namespace KN
open PySem PySem.Spec PyProof.Rows L2 Evl DD
/-! N10 (as k85's) M11: the texts with one thing changed -/
theorem ev_asg' {i : Nat} {m : ME} {ρ ρ' : DEnv} {d : D} (h : m ρ = some d) (e : ρ.set i (.pu d) = ρ') : mAsg i m ρ = some (.nx ρ') := by
  rw [ev_asg h, e]
theorem modD_ok {a b : Int} (h : 0 < b) : modD (.int a) (.int b) = some (.int (a % b)) := by
  unfold modD DD.intD
  exact if_pos (by unfold modC; exact decide_eq_true h)
theorem at_mem {α : Type} {xs : List α} {i : Int} (h0 : 0 ≤ i) (h1 : i < xs.length) : ∃ x, x ∈ xs ∧ atI xs i = some x := by
  have h : i.toNat < xs.length := by omega
  refine ⟨xs[i.toNat], List.getElem_mem h, ?_⟩
  unfold atI ixN
  rw [if_pos h0, if_pos h1]
  exact List.getElem?_eq_getElem h
theorem ix_mod {ys : List Str} {a : Int} (h : 0 < ys.length) : ∃ y, y ∈ ys ∧ ixLD (.lst (ys.map .str)) (.int (a % (ys.length : Int))) = some (.str y) := by
  have h0 := Int.emod_nonneg a (b := (ys.length : Int)) (by omega)
  have h1 := Int.emod_lt_of_pos a (b := (ys.length : Int)) (by omega)
  obtain ⟨x, hx, e⟩ := at_mem (xs := ys.map D.str) h0 (by rw [List.length_map]; exact h1)
  obtain ⟨y, hy, rfl⟩ := List.mem_map.mp hx
  exact ⟨y, hy, e⟩
abbrev mOther (m : ME) : ME := mMeth joinD (mC (.str "\n")) (mCons (mOp addD (mOp addD (mSl slD (mVar 3) mNoPart (mPart (mVar 4))) (mLst (few (mCons m mNil)))) (mSl slD (mVar 3) (mPart (mOp addD (mVar 4) (mC (.int 1)))) mNoPart)) mNil)
theorem for_bent {x0 x1 x2 x5 x6 x7 x8 x9 x11 : DE} {L : List Str} {i : Int} (hL : wt L ≤ 1001) (hc : ∀ y ∈ L, okC y) : ∀ (bs : List Str) (acc : List Str) (x : DE), acc.length + bs.length ≤ 1000 → (∀ b ∈ bs, Ok 5000 b) → (∀ b ∈ acc, Ok 20000 b) →
    ∃ (out : List Str) (x' : DE), forL (gN 12) (mApp 10 (mOther (mVar 12))) (bs.map D.str) [x0, x1, x2, .pu (.lst (L.map .str)), .pu (.int i), x5, x6, x7, x8, x9, .ow (acc.map .str), x11, x] = some (.nx [x0, x1, x2, .pu (.lst (L.map .str)), .pu (.int i), x5, x6, x7, x8, x9, .ow (out.map .str), x11, x']) ∧ out.length = acc.length + bs.length ∧ ∀ b ∈ out, Ok 20000 b
  | [], acc, x, _, _, ha => ⟨acc, x, rfl, rfl, ha⟩
  | b :: bs, acc, x, hl, hb, ha => by
    have l3 : Lx 1001 (mVar 3) [x0, x1, x2, .pu (.lst (L.map .str)), .pu (.int i), x5, x6, x7, x8, x9, .ow (acc.map .str), x11, .pu (.str b)] := ⟨L, rfl, hL, hc⟩
    have sb : Sx 5000 (mVar 12) [x0, x1, x2, .pu (.lst (L.map .str)), .pu (.int i), x5, x6, x7, x8, x9, .ow (acc.map .str), x11, .pu (.str b)] := ⟨b, rfl, hb b (by simp)⟩
    have so : Sx 20000 (mOther (mVar 12)) [x0, x1, x2, .pu (.lst (L.map .str)), .pu (.int i), x5, x6, x7, x8, x9, .ow (acc.map .str), x11, .pu (.str b)] :=
      (sx_join tl_nl (by decide) (lx_add (lx_add (lx_sl l3 rfl rfl) (lx_one sb) (by decide)) (lx_sl l3 rfl rfl) (by decide)) (by decide)).mono (by decide)
    obtain ⟨y, ey, oy⟩ := so
    obtain ⟨out, x', e, hlen, ho⟩ := for_bent (x0 := x0) (x1 := x1) (x2 := x2) (x5 := x5) (x6 := x6) (x7 := x7) (x8 := x8) (x9 := x9) (x11 := x11) (i := i) hL hc bs (acc ++ [y]) (.pu (.str b)) (by simp at hl ⊢; omega) (fun b h => hb b (by simp [h])) (fun b h => by
      rcases List.mem_append.mp h with h | h
      · exact ha b h
      · rw [List.mem_singleton] at h; rw [h]; exact oy)
    refine ⟨out, x', ?_, by rw [hlen]; simp; omega, ho⟩
    have hap : mApp 10 (mOther (mVar 12)) [x0, x1, x2, .pu (.lst (L.map .str)), .pu (.int i), x5, x6, x7, x8, x9, .ow (acc.map .str), x11, .pu (.str b)] = some (.nx [x0, x1, x2, .pu (.lst (L.map .str)), .pu (.int i), x5, x6, x7, x8, x9, .ow ((acc ++ [y]).map .str), x11, .pu (.str b)]) := by
      show (mOther (mVar 12) _).bind (fun d => if (acc.map D.str).length < big then some (Out.nx [x0, x1, x2, .pu (.lst (L.map .str)), .pu (.int i), x5, x6, x7, x8, x9, .ow (acc.map .str ++ [d]), x11, .pu (.str b)]) else none) = _
      rw [ey]
      rw [List.map_append]
      refine if_pos ?_
      rw [List.length_map, big_eq]
      simp at hl
      omega
    show (mApp 10 (mOther (mVar 12)) [x0, x1, x2, .pu (.lst (L.map .str)), .pu (.int i), x5, x6, x7, x8, x9, .ow (acc.map .str), x11, .pu (.str b)]).bind _ = _
    rw [hap]
    exact e
theorem okS {z : Str} (n : Nat) (l : List Nat) (e : tl z = l) (hn : l.length ≤ n := by decide) (hc : ∀ c ∈ l, c < 1114112 := by decide) : Ok n z := ⟨by rw [len_tl, e]; exact hn, fun c h => hc c (e ▸ h)⟩
theorem sx_c {ρ : DEnv} {z : Str} (n : Nat) (h : Ok n z) : Sx n (mC (.str z)) ρ := ⟨z, rfl, h⟩
theorem ok_e : Ok 0 "" := okS 0 [] (by decide)
theorem ok_sp : Ok 1 " " := okS 1 [32] (by decide)
theorem ok_nl : Ok 1 "\n" := okS 1 [10] (by decide)
theorem ok_0 : Ok 1 "0" := okS 1 [48] (by decide)
theorem ok_1 : Ok 1 "1" := okS 1 [49] (by decide)
theorem ok_sps : Ok 2 "  " := okS 2 [32, 32] (by decide)
theorem F_texts_ok {z : Str} {n0 n1 n2 : Int} {ns : List D} {pcs : List Str} (hz : Ok 1000 z) (hp : 0 < pcs.length) (hpo : ∀ p ∈ pcs, Ok 10 p) :
    ∃ out : List Str, F__law_texts [.str z, .lst (.int n0 :: .int n1 :: .int n2 :: ns), .lst (pcs.map .str)] = some (.lst (out.map .str)) ∧ ∀ y ∈ out, Ok 20000 y := by
  obtain ⟨f1, f2, f3⟩ := cut_facts (z := z) tl_nl (by decide)
  have hsm : small z := Nat.le_trans hz.l (by decide)
  generalize hL : Txt.split z "\n" = L at f1 f2 f3
  have wL : wt L ≤ 1001 := by have := hz.l; omega
  have cL : ∀ y ∈ L, okC y := fun y hy c hc => hz.c c ((f1 y hy).2.2 c hc)
  have oL : ∀ y ∈ L, Ok 1000 y := fun y hy => ⟨Nat.le_trans (f1 y hy).2.1 hz.l, cL y hy⟩
  obtain ⟨line, hline, eline⟩ := ix_mod (a := n0) f3
  have oline := oL line hline
  generalize hi : n0 % (L.length : Int) = i at eline
  obtain ⟨g1, g2, g3⟩ := cut_facts (z := line) tl_sp (by decide)
  generalize hW : Txt.split line " " = W at g1 g2 g3
  have wW : wt W ≤ 1001 := by have := oline.l; omega
  have cW : ∀ y ∈ W, okC y := fun y hy c hc => oline.c c ((g1 y hy).2.2 c hc)
  obtain ⟨word, hword, eword⟩ := ix_mod (a := n1) g3
  have oword : Ok 1000 word := ⟨Nat.le_trans (g1 word hword).2.1 oline.l, cW word hword⟩
  obtain ⟨sign, hsign, esign⟩ := ix_mod (a := n2) hp
  have osign := hpo sign hsign
  generalize hN : D.lst (.int n0 :: .int n1 :: .int n2 :: ns) = Nm
  have i0 : ixLD Nm (.int 0) = some (.int n0) := by rw [← hN]; exact atI_zero _ _
  have i1 : ixLD Nm (.int 1) = some (.int n1) := by
    rw [← hN]
    show atI _ 1 = _
    unfold atI ixN
    rw [if_pos (by decide), if_pos (by simp only [List.length_cons]; omega)]
    rfl
  have i2 : ixLD Nm (.int 2) = some (.int n2) := by
    rw [← hN]
    show atI _ 2 = _
    unfold atI ixN
    rw [if_pos (by decide), if_pos (by simp only [List.length_cons]; omega)]
    rfl
  have s3 : (mMeth splitD (mVar 0) (mCons (mC (.str "\n")) mNil)) [.pu (.str z), .pu Nm, .pu (.lst (pcs.map .str)), .un, .un, .un, .un, .un, .un, .un, .un, .un, .un] = some (.lst (L.map .str)) := by
    refine (ev_meth rfl (ev_cons rfl rfl)).trans ?_
    rw [splitD_ok tl_nl (big_of hsm), hL]
  have s4 : (mOp modD (mOp ixLD (mVar 1) (mC (.int 0))) (mCall lenKD (mCons (mVar 3) mNil))) [.pu (.str z), .pu Nm, .pu (.lst (pcs.map .str)), .pu (.lst (L.map .str)), .un, .un, .un, .un, .un, .un, .un, .un, .un] = some (.int i) := by
    have e : mCall lenKD (mCons (mVar 3) mNil) [.pu (.str z), .pu Nm, .pu (.lst (pcs.map .str)), .pu (.lst (L.map .str)), .un, .un, .un, .un, .un, .un, .un, .un, .un] = some (.int (L.length : Int)) := by
      show some (D.int ((L.map D.str).length : Int)) = _
      rw [List.length_map]
    rw [ev_op ((ev_op rfl rfl).trans i0) e, modD_ok (by omega), hi]
  have s5 : mOp ixLD (mVar 3) (mVar 4) [.pu (.str z), .pu Nm, .pu (.lst (pcs.map .str)), .pu (.lst (L.map .str)), .pu (.int i), .un, .un, .un, .un, .un, .un, .un, .un] = some (.str line) := (ev_op rfl rfl).trans eline
  have s6 : ∃ spot : Int, (mOp modD (mOp ixLD (mVar 1) (mC (.int 1))) (mOp addK (mCall lenKD (mCons (mVar 5) mNil)) (mC (.int 1)))) [.pu (.str z), .pu Nm, .pu (.lst (pcs.map .str)), .pu (.lst (L.map .str)), .pu (.int i), .pu (.str line), .un, .un, .un, .un, .un, .un, .un] = some (.int spot) := by
    have e : mOp addK (mCall lenKD (mCons (mVar 5) mNil)) (mC (.int 1)) [.pu (.str z), .pu Nm, .pu (.lst (pcs.map .str)), .pu (.lst (L.map .str)), .pu (.int i), .pu (.str line), .un, .un, .un, .un, .un, .un, .un] = some (.int ((line.length : Int) + 1)) := by
      have e1 : mCall lenKD (mCons (mVar 5) mNil) [.pu (.str z), .pu Nm, .pu (.lst (pcs.map .str)), .pu (.lst (L.map .str)), .pu (.int i), .pu (.str line), .un, .un, .un, .un, .un, .un, .un] = some (.int (line.length : Int)) := if_pos (by have := oline.l; rw [big_eq]; omega)
      rw [ev_op e1 rfl]
      rfl
    exact ⟨_, (ev_op ((ev_op rfl rfl).trans i1) e).trans (modD_ok (by omega))⟩
  obtain ⟨spot, s6⟩ := s6
  have s7 : mOp ixLD (mVar 2) (mOp modD (mOp ixLD (mVar 1) (mC (.int 2))) (mCall lenKD (mCons (mVar 2) mNil))) [.pu (.str z), .pu Nm, .pu (.lst (pcs.map .str)), .pu (.lst (L.map .str)), .pu (.int i), .pu (.str line), .pu (.int spot), .un, .un, .un, .un, .un, .un] = some (.str sign) := by
    have e : mCall lenKD (mCons (mVar 2) mNil) [.pu (.str z), .pu Nm, .pu (.lst (pcs.map .str)), .pu (.lst (L.map .str)), .pu (.int i), .pu (.str line), .pu (.int spot), .un, .un, .un, .un, .un, .un] = some (.int (pcs.length : Int)) := by
      show some (D.int ((pcs.map D.str).length : Int)) = _
      rw [List.length_map]
    have e2 := (ev_op (f := modD) ((ev_op (f := ixLD) (ρ := [.pu (.str z), .pu Nm, .pu (.lst (pcs.map .str)), .pu (.lst (L.map .str)), .pu (.int i), .pu (.str line), .pu (.int spot), .un, .un, .un, .un, .un, .un]) (ma := mVar 1) (mb := mC (.int 2)) rfl rfl).trans i2) e).trans (modD_ok (by omega))
    exact (ev_op rfl e2).trans esign
  have s8 : (mMeth splitD (mVar 5) (mCons (mC (.str " ")) mNil)) [.pu (.str z), .pu Nm, .pu (.lst (pcs.map .str)), .pu (.lst (L.map .str)), .pu (.int i), .pu (.str line), .pu (.int spot), .pu (.str sign), .un, .un, .un, .un, .un] = some (.lst (W.map .str)) := by
    refine (ev_meth rfl (ev_cons rfl rfl)).trans ?_
    rw [splitD_ok tl_sp (big_of (Nat.le_trans oline.l (by decide))), hW]
  have s9 : mOp ixLD (mVar 8) (mOp modD (mOp ixLD (mVar 1) (mC (.int 1))) (mCall lenKD (mCons (mVar 8) mNil))) [.pu (.str z), .pu Nm, .pu (.lst (pcs.map .str)), .pu (.lst (L.map .str)), .pu (.int i), .pu (.str line), .pu (.int spot), .pu (.str sign), .pu (.lst (W.map .str)), .un, .un, .un, .un] = some (.str word) := by
    have e : mCall lenKD (mCons (mVar 8) mNil) [.pu (.str z), .pu Nm, .pu (.lst (pcs.map .str)), .pu (.lst (L.map .str)), .pu (.int i), .pu (.str line), .pu (.int spot), .pu (.str sign), .pu (.lst (W.map .str)), .un, .un, .un, .un] = some (.int (W.length : Int)) := by
      show some (D.int ((W.map D.str).length : Int)) = _
      rw [List.length_map]
    have e2 := (ev_op (f := modD) ((ev_op (f := ixLD) (ρ := [.pu (.str z), .pu Nm, .pu (.lst (pcs.map .str)), .pu (.lst (L.map .str)), .pu (.int i), .pu (.str line), .pu (.int spot), .pu (.str sign), .pu (.lst (W.map .str)), .un, .un, .un, .un]) (ma := mVar 1) (mb := mC (.int 1)) rfl rfl).trans i1) e).trans (modD_ok (by omega))
    exact (ev_op rfl e2).trans eword
  have s10 : Ax 20000 10 (few (mCons (mVar 0) (mCons (mOp addK (mVar 0) (mC (.str "\n"))) (mCons (mOp addK (mC (.str "\n")) (mVar 0)) (mCons (mOp addK (mVar 0) (mC (.str " "))) (mCons (mOp addK (mC (.str " ")) (mVar 0)) (mCons (mC (.str "")) (mCons (mOp addK (mOp addK (mVar 0) (mC (.str "\n"))) (mVar 5)) (mCons (mVar 5) (mCons (mMeth repD (mVar 0) (mCons (mC (.str " ")) (mCons (mC (.str "  ")) (mCons (mC (.int 1)) mNil)))) (mCons (mMeth joinD (mC (.str "\n")) (mCons (mRev (mVar 3)) mNil)) mNil))))))))))) [.pu (.str z), .pu Nm, .pu (.lst (pcs.map .str)), .pu (.lst (L.map .str)), .pu (.int i), .pu (.str line), .pu (.int spot), .pu (.str sign), .pu (.lst (W.map .str)), .pu (.str word), .un, .un, .un] := by
    have vz : Sx 1000 (mVar 0) [.pu (.str z), .pu Nm, .pu (.lst (pcs.map .str)), .pu (.lst (L.map .str)), .pu (.int i), .pu (.str line), .pu (.int spot), .pu (.str sign), .pu (.lst (W.map .str)), .pu (.str word), .un, .un, .un] := ⟨z, rfl, hz⟩
    have vL : Lx 1001 (mVar 3) [.pu (.str z), .pu Nm, .pu (.lst (pcs.map .str)), .pu (.lst (L.map .str)), .pu (.int i), .pu (.str line), .pu (.int spot), .pu (.str sign), .pu (.lst (W.map .str)), .pu (.str word), .un, .un, .un] := ⟨L, rfl, wL, cL⟩
    have vl : Sx 1000 (mVar 5) [.pu (.str z), .pu Nm, .pu (.lst (pcs.map .str)), .pu (.lst (L.map .str)), .pu (.int i), .pu (.str line), .pu (.int spot), .pu (.str sign), .pu (.lst (W.map .str)), .pu (.str word), .un, .un, .un] := ⟨line, rfl, oline⟩
    have vg : Sx 10 (mVar 7) [.pu (.str z), .pu Nm, .pu (.lst (pcs.map .str)), .pu (.lst (L.map .str)), .pu (.int i), .pu (.str line), .pu (.int spot), .pu (.str sign), .pu (.lst (W.map .str)), .pu (.str word), .un, .un, .un] := ⟨sign, rfl, osign⟩
    have vW : Lx 1001 (mVar 8) [.pu (.str z), .pu Nm, .pu (.lst (pcs.map .str)), .pu (.lst (L.map .str)), .pu (.int i), .pu (.str line), .pu (.int spot), .pu (.str sign), .pu (.lst (W.map .str)), .pu (.str word), .un, .un, .un] := ⟨W, rfl, wW, cW⟩
    have vw : Sx 1000 (mVar 9) [.pu (.str z), .pu Nm, .pu (.lst (pcs.map .str)), .pu (.lst (L.map .str)), .pu (.int i), .pu (.str line), .pu (.int spot), .pu (.str sign), .pu (.lst (W.map .str)), .pu (.str word), .un, .un, .un] := ⟨word, rfl, oword⟩
    exact ax_few (ax_cons vz (ax_cons (sx_add vz (sx_c 1 ok_nl) (by decide)) (ax_cons (sx_add (sx_c 1 ok_nl) vz (by decide)) (ax_cons (sx_add vz (sx_c 1 ok_sp) (by decide)) (ax_cons (sx_add (sx_c 1 ok_sp) vz (by decide)) (ax_cons (sx_c 0 ok_e) (ax_cons (sx_add (sx_add vz (sx_c 1 ok_nl) (by decide)) vl (by decide)) (ax_cons vl (ax_cons (sx_rep vz (sx_c 1 ok_sp) (sx_c 2 ok_sps) (by decide)) (ax_cons (sx_join tl_nl (by decide) (lx_rev vL) (by decide)) ax_nil))))))))))
  obtain ⟨fs, ef, lf, of⟩ := s10
  have s11 : Ax 5000 5 (few (mCons (mOp addK (mOp addK (mSl slKD (mVar 5) mNoPart (mPart (mVar 6))) (mVar 7)) (mSl slKD (mVar 5) (mPart (mVar 6)) mNoPart)) (mCons (mOp addK (mOp addK (mSl slKD (mVar 5) mNoPart (mPart (mVar 6))) (mVar 7)) (mSl slKD (mVar 5) (mPart (mOp addK (mVar 6) (mC (.int 1)))) mNoPart)) (mCons (mOp addK (mSl slKD (mVar 5) mNoPart (mPart (mVar 6))) (mSl slKD (mVar 5) (mPart (mOp addK (mVar 6) (mC (.int 1)))) mNoPart)) (mCons (mMeth joinD (mC (.str " ")) (mCons (mRev (mVar 8)) mNil)) (mCons (mMeth joinD (mC (.str " ")) (mCons (mSl slKD (mVar 8) mNoPart (mPart (mUn negD (mC (.int 1))))) mNil)) mNil)))))) [.pu (.str z), .pu Nm, .pu (.lst (pcs.map .str)), .pu (.lst (L.map .str)), .pu (.int i), .pu (.str line), .pu (.int spot), .pu (.str sign), .pu (.lst (W.map .str)), .pu (.str word), .ow (fs.map .str), .un, .un] := by
    have vz : Sx 1000 (mVar 0) [.pu (.str z), .pu Nm, .pu (.lst (pcs.map .str)), .pu (.lst (L.map .str)), .pu (.int i), .pu (.str line), .pu (.int spot), .pu (.str sign), .pu (.lst (W.map .str)), .pu (.str word), .ow (fs.map .str), .un, .un] := ⟨z, rfl, hz⟩
    have vL : Lx 1001 (mVar 3) [.pu (.str z), .pu Nm, .pu (.lst (pcs.map .str)), .pu (.lst (L.map .str)), .pu (.int i), .pu (.str line), .pu (.int spot), .pu (.str sign), .pu (.lst (W.map .str)), .pu (.str word), .ow (fs.map .str), .un, .un] := ⟨L, rfl, wL, cL⟩
    have vl : Sx 1000 (mVar 5) [.pu (.str z), .pu Nm, .pu (.lst (pcs.map .str)), .pu (.lst (L.map .str)), .pu (.int i), .pu (.str line), .pu (.int spot), .pu (.str sign), .pu (.lst (W.map .str)), .pu (.str word), .ow (fs.map .str), .un, .un] := ⟨line, rfl, oline⟩
    have vg : Sx 10 (mVar 7) [.pu (.str z), .pu Nm, .pu (.lst (pcs.map .str)), .pu (.lst (L.map .str)), .pu (.int i), .pu (.str line), .pu (.int spot), .pu (.str sign), .pu (.lst (W.map .str)), .pu (.str word), .ow (fs.map .str), .un, .un] := ⟨sign, rfl, osign⟩
    have vW : Lx 1001 (mVar 8) [.pu (.str z), .pu Nm, .pu (.lst (pcs.map .str)), .pu (.lst (L.map .str)), .pu (.int i), .pu (.str line), .pu (.int spot), .pu (.str sign), .pu (.lst (W.map .str)), .pu (.str word), .ow (fs.map .str), .un, .un] := ⟨W, rfl, wW, cW⟩
    have vw : Sx 1000 (mVar 9) [.pu (.str z), .pu Nm, .pu (.lst (pcs.map .str)), .pu (.lst (L.map .str)), .pu (.int i), .pu (.str line), .pu (.int spot), .pu (.str sign), .pu (.lst (W.map .str)), .pu (.str word), .ow (fs.map .str), .un, .un] := ⟨word, rfl, oword⟩
    exact ax_few (ax_cons (sx_add (sx_add (sx_sl vl rfl rfl (by decide)) vg (by decide)) (sx_sl vl rfl rfl (by decide)) (by decide)) (ax_cons (sx_add (sx_add (sx_sl vl rfl rfl (by decide)) vg (by decide)) (sx_sl vl rfl rfl (by decide)) (by decide)) (ax_cons (sx_add (sx_sl vl rfl rfl (by decide)) (sx_sl vl rfl rfl (by decide)) (by decide)) (ax_cons (sx_join tl_sp (by decide) (lx_rev vW) (by decide)) (ax_cons (sx_join tl_sp (by decide) (lx_slK vW rfl rfl) (by decide)) ax_nil)))))
  obtain ⟨bs, eb, lb, ob⟩ := s11
  have s12 : Ax 5000 6 (few (mCons (mMeth joinD (mC (.str " ")) (mCons (mSl slKD (mVar 8) (mPart (mC (.int 1))) mNoPart) mNil)) (mCons (mOp addK (mOp addK (mVar 5) (mC (.str " "))) (mVar 9)) (mCons (mOp addK (mOp addK (mVar 9) (mC (.str " "))) (mVar 5)) (mCons (mMeth repD (mVar 5) (mCons (mVar 9) (mCons (mVar 7) (mCons (mC (.int 1)) mNil)))) (mCons (mMeth repD (mVar 5) (mCons (mVar 9) (mCons (mOp catSD (mVar 9) (mC (.str "1"))) (mCons (mC (.int 1)) mNil)))) (mCons (mMeth repD (mVar 5) (mCons (mVar 9) (mCons (mOp catSD (mC (.str "0")) (mVar 9)) (mCons (mC (.int 1)) mNil)))) mNil))))))) [.pu (.str z), .pu Nm, .pu (.lst (pcs.map .str)), .pu (.lst (L.map .str)), .pu (.int i), .pu (.str line), .pu (.int spot), .pu (.str sign), .pu (.lst (W.map .str)), .pu (.str word), .ow (fs.map .str), .pu (.lst (bs.map .str)), .un] := by
    have vz : Sx 1000 (mVar 0) [.pu (.str z), .pu Nm, .pu (.lst (pcs.map .str)), .pu (.lst (L.map .str)), .pu (.int i), .pu (.str line), .pu (.int spot), .pu (.str sign), .pu (.lst (W.map .str)), .pu (.str word), .ow (fs.map .str), .pu (.lst (bs.map .str)), .un] := ⟨z, rfl, hz⟩
    have vL : Lx 1001 (mVar 3) [.pu (.str z), .pu Nm, .pu (.lst (pcs.map .str)), .pu (.lst (L.map .str)), .pu (.int i), .pu (.str line), .pu (.int spot), .pu (.str sign), .pu (.lst (W.map .str)), .pu (.str word), .ow (fs.map .str), .pu (.lst (bs.map .str)), .un] := ⟨L, rfl, wL, cL⟩
    have vl : Sx 1000 (mVar 5) [.pu (.str z), .pu Nm, .pu (.lst (pcs.map .str)), .pu (.lst (L.map .str)), .pu (.int i), .pu (.str line), .pu (.int spot), .pu (.str sign), .pu (.lst (W.map .str)), .pu (.str word), .ow (fs.map .str), .pu (.lst (bs.map .str)), .un] := ⟨line, rfl, oline⟩
    have vg : Sx 10 (mVar 7) [.pu (.str z), .pu Nm, .pu (.lst (pcs.map .str)), .pu (.lst (L.map .str)), .pu (.int i), .pu (.str line), .pu (.int spot), .pu (.str sign), .pu (.lst (W.map .str)), .pu (.str word), .ow (fs.map .str), .pu (.lst (bs.map .str)), .un] := ⟨sign, rfl, osign⟩
    have vW : Lx 1001 (mVar 8) [.pu (.str z), .pu Nm, .pu (.lst (pcs.map .str)), .pu (.lst (L.map .str)), .pu (.int i), .pu (.str line), .pu (.int spot), .pu (.str sign), .pu (.lst (W.map .str)), .pu (.str word), .ow (fs.map .str), .pu (.lst (bs.map .str)), .un] := ⟨W, rfl, wW, cW⟩
    have vw : Sx 1000 (mVar 9) [.pu (.str z), .pu Nm, .pu (.lst (pcs.map .str)), .pu (.lst (L.map .str)), .pu (.int i), .pu (.str line), .pu (.int spot), .pu (.str sign), .pu (.lst (W.map .str)), .pu (.str word), .ow (fs.map .str), .pu (.lst (bs.map .str)), .un] := ⟨word, rfl, oword⟩
    exact ax_few (ax_cons (sx_join tl_sp (by decide) (lx_slK vW rfl rfl) (by decide)) (ax_cons (sx_add (sx_add vl (sx_c 1 ok_sp) (by decide)) vw (by decide)) (ax_cons (sx_add (sx_add vw (sx_c 1 ok_sp) (by decide)) vl (by decide)) (ax_cons (sx_rep vl vw vg (by decide)) (ax_cons (sx_rep vl vw (sx_cat vw (sx_c 1 ok_1) (by decide)) (by decide)) (ax_cons (sx_rep vl vw (sx_cat (sx_c 1 ok_0) vw (by decide)) (by decide)) ax_nil))))))
  obtain ⟨bs2, eb2, lb2, ob2⟩ := s12
  have s13 : (mOp addK (mVar 11) (mLst (few (mCons (mMeth joinD (mC (.str " ")) (mCons (mSl slKD (mVar 8) (mPart (mC (.int 1))) mNoPart) mNil)) (mCons (mOp addK (mOp addK (mVar 5) (mC (.str " "))) (mVar 9)) (mCons (mOp addK (mOp addK (mVar 9) (mC (.str " "))) (mVar 5)) (mCons (mMeth repD (mVar 5) (mCons (mVar 9) (mCons (mVar 7) (mCons (mC (.int 1)) mNil)))) (mCons (mMeth repD (mVar 5) (mCons (mVar 9) (mCons (mOp catSD (mVar 9) (mC (.str "1"))) (mCons (mC (.int 1)) mNil)))) (mCons (mMeth repD (mVar 5) (mCons (mVar 9) (mCons (mOp catSD (mC (.str "0")) (mVar 9)) (mCons (mC (.int 1)) mNil)))) mNil))))))))) [.pu (.str z), .pu Nm, .pu (.lst (pcs.map .str)), .pu (.lst (L.map .str)), .pu (.int i), .pu (.str line), .pu (.int spot), .pu (.str sign), .pu (.lst (W.map .str)), .pu (.str word), .ow (fs.map .str), .pu (.lst (bs.map .str)), .un] = some (.lst ((bs ++ bs2).map .str)) := by
    rw [ev_op rfl (ev_lst eb2), List.map_append]
    refine if_pos ?_
    rw [List.length_map, List.length_map, lb, lb2]
    decide
  obtain ⟨out, x', e14, l14, o14⟩ := for_bent (x0 := .pu (.str z)) (x1 := .pu Nm) (x2 := .pu (.lst (pcs.map .str))) (x5 := .pu (.str line)) (x6 := .pu (.int spot)) (x7 := .pu (.str sign)) (x8 := .pu (.lst (W.map .str))) (x9 := .pu (.str word)) (x11 := .pu (.lst ((bs ++ bs2).map .str))) (i := i) wL cL (bs ++ bs2) fs .un (by rw [List.length_append, lf, lb, lb2]; decide) (fun b h => by
    rcases List.mem_append.mp h with h | h
    · exact ob b h
    · exact ob2 b h) of
  have s15 : Ax 20000 2 (few (mCons (mMeth joinD (mC (.str "\n")) (mCons (mOp addD (mSl slD (mVar 3) mNoPart (mPart (mVar 4))) (mSl slD (mVar 3) (mPart (mOp addD (mVar 4) (mC (.int 1)))) mNoPart)) mNil)) (mCons (mMeth joinD (mC (.str "\n")) (mCons (mOp addD (mOp addD (mSl slD (mVar 3) mNoPart (mPart (mVar 4))) (mLst (few (mCons (mVar 5) mNil)))) (mSl slD (mVar 3) (mPart (mVar 4)) mNoPart)) mNil)) mNil))) [.pu (.str z), .pu Nm, .pu (.lst (pcs.map .str)), .pu (.lst (L.map .str)), .pu (.int i), .pu (.str line), .pu (.int spot), .pu (.str sign), .pu (.lst (W.map .str)), .pu (.str word), .pu (.lst (out.map .str)), .pu (.lst ((bs ++ bs2).map .str)), x'] := by
    have vL : Lx 1001 (mVar 3) [.pu (.str z), .pu Nm, .pu (.lst (pcs.map .str)), .pu (.lst (L.map .str)), .pu (.int i), .pu (.str line), .pu (.int spot), .pu (.str sign), .pu (.lst (W.map .str)), .pu (.str word), .pu (.lst (out.map .str)), .pu (.lst ((bs ++ bs2).map .str)), x'] := ⟨L, rfl, wL, cL⟩
    have vl : Sx 1000 (mVar 5) [.pu (.str z), .pu Nm, .pu (.lst (pcs.map .str)), .pu (.lst (L.map .str)), .pu (.int i), .pu (.str line), .pu (.int spot), .pu (.str sign), .pu (.lst (W.map .str)), .pu (.str word), .pu (.lst (out.map .str)), .pu (.lst ((bs ++ bs2).map .str)), x'] := ⟨line, rfl, oline⟩
    exact ax_few (ax_cons (sx_join tl_nl (by decide) (lx_add (lx_sl vL rfl rfl) (lx_sl vL rfl rfl) (by decide)) (by decide)) (ax_cons (sx_join tl_nl (by decide) (lx_add (lx_add (lx_sl vL rfl rfl) (lx_one vl) (by decide)) (lx_sl vL rfl rfl) (by decide)) (by decide)) ax_nil))
  obtain ⟨es, ee, le, oe⟩ := s15
  refine ⟨out ++ es, ev_runF rfl ?_, fun y hy => ?_⟩
  · show m__law_texts [.pu (.str z), .pu Nm, .pu (.lst (pcs.map .str)), .un, .un, .un, .un, .un, .un, .un, .un, .un, .un] = _
    unfold m__law_texts
    rw [ev_seq (ev_asg' (ρ' := [.pu (.str z), .pu Nm, .pu (.lst (pcs.map .str)), .pu (.lst (L.map .str)), .un, .un, .un, .un, .un, .un, .un, .un, .un]) s3 rfl)]
    rw [ev_seq (ev_asg' (ρ' := [.pu (.str z), .pu Nm, .pu (.lst (pcs.map .str)), .pu (.lst (L.map .str)), .pu (.int i), .un, .un, .un, .un, .un, .un, .un, .un]) s4 rfl)]
    rw [ev_seq (ev_asg' (ρ' := [.pu (.str z), .pu Nm, .pu (.lst (pcs.map .str)), .pu (.lst (L.map .str)), .pu (.int i), .pu (.str line), .un, .un, .un, .un, .un, .un, .un]) s5 rfl)]
    rw [ev_seq (ev_asg' (ρ' := [.pu (.str z), .pu Nm, .pu (.lst (pcs.map .str)), .pu (.lst (L.map .str)), .pu (.int i), .pu (.str line), .pu (.int spot), .un, .un, .un, .un, .un, .un]) s6 rfl)]
    rw [ev_seq (ev_asg' (ρ' := [.pu (.str z), .pu Nm, .pu (.lst (pcs.map .str)), .pu (.lst (L.map .str)), .pu (.int i), .pu (.str line), .pu (.int spot), .pu (.str sign), .un, .un, .un, .un, .un]) s7 rfl)]
    rw [ev_seq (ev_asg' (ρ' := [.pu (.str z), .pu Nm, .pu (.lst (pcs.map .str)), .pu (.lst (L.map .str)), .pu (.int i), .pu (.str line), .pu (.int spot), .pu (.str sign), .pu (.lst (W.map .str)), .un, .un, .un, .un]) s8 rfl)]
    rw [ev_seq (ev_asg' (ρ' := [.pu (.str z), .pu Nm, .pu (.lst (pcs.map .str)), .pu (.lst (L.map .str)), .pu (.int i), .pu (.str line), .pu (.int spot), .pu (.str sign), .pu (.lst (W.map .str)), .pu (.str word), .un, .un, .un]) s9 rfl)]
    rw [ev_seq (ρ' := [.pu (.str z), .pu Nm, .pu (.lst (pcs.map .str)), .pu (.lst (L.map .str)), .pu (.int i), .pu (.str line), .pu (.int spot), .pu (.str sign), .pu (.lst (W.map .str)), .pu (.str word), .ow (fs.map .str), .un, .un]) (by unfold mAsgO; rw [ef]; rfl)]
    rw [ev_seq (ev_asg' (ρ' := [.pu (.str z), .pu Nm, .pu (.lst (pcs.map .str)), .pu (.lst (L.map .str)), .pu (.int i), .pu (.str line), .pu (.int spot), .pu (.str sign), .pu (.lst (W.map .str)), .pu (.str word), .ow (fs.map .str), .pu (.lst (bs.map .str)), .un]) (ev_lst eb) rfl)]
    rw [ev_seq (ev_asg' (ρ' := [.pu (.str z), .pu Nm, .pu (.lst (pcs.map .str)), .pu (.lst (L.map .str)), .pu (.int i), .pu (.str line), .pu (.int spot), .pu (.str sign), .pu (.lst (W.map .str)), .pu (.str word), .ow (fs.map .str), .pu (.lst ((bs ++ bs2).map .str)), .un]) s13 rfl)]
    have e15 : mFor (mItems (mVar 11)) (gN 12) (mApp 10 (mOther (mVar 12))) [.pu (.str z), .pu Nm, .pu (.lst (pcs.map .str)), .pu (.lst (L.map .str)), .pu (.int i), .pu (.str line), .pu (.int spot), .pu (.str sign), .pu (.lst (W.map .str)), .pu (.str word), .ow (fs.map .str), .pu (.lst ((bs ++ bs2).map .str)), .un] = some (.nx [.pu (.str z), .pu Nm, .pu (.lst (pcs.map .str)), .pu (.lst (L.map .str)), .pu (.int i), .pu (.str line), .pu (.int spot), .pu (.str sign), .pu (.lst (W.map .str)), .pu (.str word), .ow (out.map .str), .pu (.lst ((bs ++ bs2).map .str)), x']) := e14
    rw [ev_seq e15]
    show mRet (mOp addD (mVar 10) (mLst (few (mCons (mMeth joinD (mC (.str "\n")) (mCons (mOp addD (mSl slD (mVar 3) mNoPart (mPart (mVar 4))) (mSl slD (mVar 3) (mPart (mOp addD (mVar 4) (mC (.int 1)))) mNoPart)) mNil)) (mCons (mMeth joinD (mC (.str "\n")) (mCons (mOp addD (mOp addD (mSl slD (mVar 3) mNoPart (mPart (mVar 4))) (mLst (few (mCons (mVar 5) mNil)))) (mSl slD (mVar 3) (mPart (mVar 4)) mNoPart)) mNil)) mNil))))) [.pu (.str z), .pu Nm, .pu (.lst (pcs.map .str)), .pu (.lst (L.map .str)), .pu (.int i), .pu (.str line), .pu (.int spot), .pu (.str sign), .pu (.lst (W.map .str)), .pu (.str word), .pu (.lst (out.map .str)), .pu (.lst ((bs ++ bs2).map .str)), x'] = _
    refine ev_ret ?_
    rw [ev_op rfl (ev_lst ee), List.map_append]
    refine if_pos ?_
    rw [List.length_map, List.length_map, l14, List.length_append, lf, lb, lb2, le]
    decide
  · rcases List.mem_append.mp hy with h | h
    · exact o14 y h
    · exact oe y h
end KN

set_option Elab.async false
set_option linter.all false
set_option maxRecDepth 100000
set_option maxHeartbeats 4000000
namespace KN
open PySem PySem.Spec PyProof.Rows L2 Evl DD
/-! N11 (as k85's) M12: _law_numbers -/
theorem mulD_ok {a b : Int} (h : (-(2 ^ 64) < a ∧ a < 2 ^ 64) ∨ (-(2 ^ 64) < b ∧ b < 2 ^ 64)) : mulD (.int a) (.int b) = some (.int (a * b)) := by
  unfold mulD DD.intD
  exact if_pos (by unfold mulC; exact decide_eq_true h)
theorem fdivD_ok {a b : Int} (h : 0 < b ∧ b < 1073741824) : fdivD (.int a) (.int b) = some (.int (a / b)) := by
  unfold fdivD DD.intD
  exact if_pos (by unfold fdivC; exact decide_eq_true h)
theorem addD_int (a b : Int) : addD (.int a) (.int b) = some (.int (a + b)) := rfl
theorem subD_int (a b : Int) : subD (.int a) (.int b) = some (.int (a - b)) := rfl
def In (m : ME) (ρ : DEnv) (i : Int) : Prop := m ρ = some (.int i)
section
variable {ρ : DEnv} {m1 m2 : ME} {a b : Int}
theorem in_add (h1 : In m1 ρ a) (h2 : In m2 ρ b) : In (mOp addD m1 m2) ρ (a + b) := (ev_op h1 h2).trans rfl
theorem in_sub (h1 : In m1 ρ a) (h2 : In m2 ρ b) : In (mOp subD m1 m2) ρ (a - b) := (ev_op h1 h2).trans rfl
theorem in_mul (h1 : In m1 ρ a) (h2 : In m2 ρ b) (h : (-(2 ^ 64) < a ∧ a < 2 ^ 64) ∨ (-(2 ^ 64) < b ∧ b < 2 ^ 64)) : In (mOp mulD m1 m2) ρ (a * b) := (ev_op h1 h2).trans (mulD_ok h)
theorem in_mod (h1 : In m1 ρ a) (h2 : In m2 ρ b) (h : 0 < b) : In (mOp modD m1 m2) ρ (a % b) := (ev_op h1 h2).trans (modD_ok h)
theorem in_div (h1 : In m1 ρ a) (h2 : In m2 ρ b) (h : 0 < b ∧ b < 1073741824) : In (mOp fdivD m1 m2) ρ (a / b) := (ev_op h1 h2).trans (fdivD_ok h)
end
abbrev mCellB : MS := mIfS (mTest (mOp geP (mVar 3) (mOp powD (mC (.int 10)) (mC (.int 18))))) (mSeq (mApp 4 (mOp modD (mVar 3) (mC (.int 1009)))) (mAsg 3 (mOp fdivD (mVar 3) (mC (.int 1009))))) (mSeq (mAsg 6 (mOp modD (mOp addD (mOp addD (mOp mulD (mVar 3) (mC (.int 48271))) (mOp mulD (mOp addD (mVar 5) (mC (.int 1))) (mC (.int 69621)))) (mOp mulD (mVar 1) (mC (.int 4001)))) (mC (.int 2147483647)))) (mSeq (mAsg 6 (mOp modD (mOp addD (mOp mulD (mVar 6) (mVar 6)) (mOp mulD (mC (.int 16807)) (mOp addD (mVar 5) (mC (.int 3))))) (mC (.int 2147483629)))) (mApp 4 (mOp modD (mOp fdivD (mVar 6) (mC (.int 7))) (mC (.int 1009))))))
def Low (n : Int) : Prop := 0 ≤ n ∧ n < 1009
theorem low_mod (a : Int) : Low (a % 1009) := ⟨Int.emod_nonneg _ (by decide), Int.emod_lt_of_pos _ (by decide)⟩
theorem cell_step {x0 x2 x6 : DE} {t c k : Int} {acc : List Int} (hl : acc.length < 1000) : ∃ (n c' : Int) (y : DE), Low n ∧ mCellB [x0, .pu (.int t), x2, .pu (.int c), .ow (acc.map D.int), .pu (.int k), x6] = some (.nx [x0, .pu (.int t), x2, .pu (.int c'), .ow ((acc ++ [n]).map D.int), .pu (.int k), y]) := by
  have hb : (acc.map D.int).length < big := by
    rw [List.length_map, big_eq]
    omega
  have ap : ∀ (n c' : Int) (y : DE) (m : ME), In m [x0, .pu (.int t), x2, .pu (.int c'), .ow (acc.map D.int), .pu (.int k), y] n → mApp 4 m [x0, .pu (.int t), x2, .pu (.int c'), .ow (acc.map D.int), .pu (.int k), y] = some (.nx [x0, .pu (.int t), x2, .pu (.int c'), .ow ((acc ++ [n]).map D.int), .pu (.int k), y]) := fun n c' y m h => by
    show (m _).bind (fun d => if (acc.map D.int).length < big then some (Out.nx [x0, .pu (.int t), x2, .pu (.int c'), .ow (acc.map D.int ++ [d]), .pu (.int k), y]) else none) = _
    rw [h, List.map_append]
    exact if_pos hb
  have hp : mOp powD (mC (.int 10)) (mC (.int 18)) [x0, .pu (.int t), x2, .pu (.int c), .ow (acc.map D.int), .pu (.int k), x6] = some (.int 1000000000000000000) := by
    rw [ev_op rfl rfl]
    have e : (10 : Int) ^ (18 : Int).toNat = 1000000000000000000 := by decide +kernel
    unfold powD DD.intD
    rw [← e]
    exact if_pos (by decide +kernel)
  have ht : mTest (mOp geP (mVar 3) (mOp powD (mC (.int 10)) (mC (.int 18)))) [x0, .pu (.int t), x2, .pu (.int c), .ow (acc.map D.int), .pu (.int k), x6] = some (decide (1000000000000000000 ≤ c)) := by
    rw [ev_test ((ev_op rfl hp).trans (geP_int c 1000000000000000000))]
    rfl
  by_cases hc : (1000000000000000000 : Int) ≤ c
  · rw [decide_eq_true hc] at ht
    refine ⟨c % 1009, c / 1009, x6, low_mod c, ?_⟩
    have h1 : In (mOp modD (mVar 3) (mC (.int 1009))) [x0, .pu (.int t), x2, .pu (.int c), .ow (acc.map D.int), .pu (.int k), x6] (c % 1009) := in_mod rfl rfl (by decide)
    have h2 : In (mOp fdivD (mVar 3) (mC (.int 1009))) [x0, .pu (.int t), x2, .pu (.int c), .ow ((acc ++ [c % 1009]).map D.int), .pu (.int k), x6] (c / 1009) := in_div rfl rfl (by decide)
    exact (ev_ifS_t ht).trans ((ev_seq (ap _ _ _ _ h1)).trans (ev_asg' h2 rfl))
  · rw [decide_eq_false hc] at ht
    have h6 : In (mOp modD (mOp addD (mOp addD (mOp mulD (mVar 3) (mC (.int 48271))) (mOp mulD (mOp addD (mVar 5) (mC (.int 1))) (mC (.int 69621)))) (mOp mulD (mVar 1) (mC (.int 4001)))) (mC (.int 2147483647))) [x0, .pu (.int t), x2, .pu (.int c), .ow (acc.map D.int), .pu (.int k), x6] ((c * 48271 + (k + 1) * 69621 + t * 4001) % 2147483647) :=
      in_mod (in_add (in_add (in_mul rfl rfl (.inr (by decide))) (in_mul (in_add rfl rfl) rfl (.inr (by decide)))) (in_mul rfl rfl (.inr (by decide)))) rfl (by decide)
    have b0 := Int.emod_nonneg (c * 48271 + (k + 1) * 69621 + t * 4001) (b := 2147483647) (by decide)
    have b1 := Int.emod_lt_of_pos (c * 48271 + (k + 1) * 69621 + t * 4001) (b := 2147483647) (by decide)
    generalize (c * 48271 + (k + 1) * 69621 + t * 4001) % 2147483647 = mx at h6 b0 b1
    have h7 : In (mOp modD (mOp addD (mOp mulD (mVar 6) (mVar 6)) (mOp mulD (mC (.int 16807)) (mOp addD (mVar 5) (mC (.int 3))))) (mC (.int 2147483629))) [x0, .pu (.int t), x2, .pu (.int c), .ow (acc.map D.int), .pu (.int k), .pu (.int mx)] ((mx * mx + 16807 * (k + 3)) % 2147483629) :=
      in_mod (in_add (in_mul rfl rfl (.inl (by omega))) (in_mul rfl (in_add rfl rfl) (.inl (by decide)))) rfl (by decide)
    generalize (mx * mx + 16807 * (k + 3)) % 2147483629 = my at h7
    refine ⟨my / 7 % 1009, c, .pu (.int my), low_mod _, ?_⟩
    refine (ev_ifS_f ht).trans ?_
    have h8 : In (mOp modD (mOp fdivD (mVar 6) (mC (.int 7))) (mC (.int 1009))) [x0, .pu (.int t), x2, .pu (.int c), .ow (acc.map D.int), .pu (.int k), .pu (.int my)] (my / 7 % 1009) := in_mod (in_div rfl rfl (by decide)) rfl (by decide)
    rw [ev_seq (ev_asg' (ρ' := [x0, .pu (.int t), x2, .pu (.int c), .ow (acc.map D.int), .pu (.int k), .pu (.int mx)]) h6 rfl), ev_seq (ev_asg' (ρ' := [x0, .pu (.int t), x2, .pu (.int c), .ow (acc.map D.int), .pu (.int k), .pu (.int my)]) h7 rfl)]
    exact ap _ _ _ _ h8
theorem for_cells {x0 x2 : DE} {t : Int} : ∀ (ks : List Int) (c : Int) (acc : List Int) (x5 x6 : DE), acc.length + ks.length ≤ 1000 → (∀ n ∈ acc, Low n) →
    ∃ (out : List Int) (c' : Int) (x5' x6' : DE), forL (gN 5) mCellB (ks.map D.int) [x0, .pu (.int t), x2, .pu (.int c), .ow (acc.map D.int), x5, x6] = some (.nx [x0, .pu (.int t), x2, .pu (.int c'), .ow (out.map D.int), x5', x6']) ∧ out.length = acc.length + ks.length ∧ ∀ n ∈ out, Low n
  | [], c, acc, x5, x6, hl, ha => ⟨acc, c, x5, x6, rfl, rfl, ha⟩
  | k :: ks, c, acc, x5, x6, hl, ha => by
    obtain ⟨n, c1, y, hn, e⟩ := cell_step (x0 := x0) (x2 := x2) (x6 := x6) (t := t) (c := c) (k := k) (acc := acc) (by simp at hl; omega)
    obtain ⟨out, c', x5', x6', e2, l2, o2⟩ := for_cells (x0 := x0) (x2 := x2) (t := t) ks c1 (acc ++ [n]) (.pu (.int k)) y (by simp at hl ⊢; omega) (fun m hm => by
      rcases List.mem_append.mp hm with h | h
      · exact ha m h
      · rw [List.mem_singleton] at h; rw [h]; exact hn)
    refine ⟨out, c', x5', x6', ?_, by rw [l2]; simp; omega, o2⟩
    show (mCellB [x0, .pu (.int t), x2, .pu (.int c), .ow (acc.map D.int), .pu (.int k), x6]).bind _ = _
    rw [e]
    exact e2
theorem range_ints (n : Nat) : rangeD 0 n = ((List.range n).map fun (i : Nat) => (i : Int)).map D.int := by
  unfold rangeD
  rw [List.map_map]
  apply List.map_congr_left
  intro i _
  show D.int (0 + (i : Int)) = D.int (i : Int)
  rw [Int.zero_add]
theorem F_numbers_law (s : List Int) {t : Nat} {m : Nat} (hm : m ≤ 100) (ht : t ≤ 1000) : ∃ ns : List Int, F__law_numbers [.lst (s.map D.int), .int (t : Int), .int (m : Int)] = some (.lst (ns.map D.int)) ∧ ns.length = m ∧ ∀ n ∈ ns, Low n := by
  have fin : ∀ c : Int, ∃ ns : List Int, (mSeq (mIfS (mTest (mOp ltP (mVar 3) (mC (.int 0)))) (mAsg 3 (mOp subD (mC (.int 1)) (mOp mulD (mC (.int 2)) (mVar 3)))) mNext) (mSeq (mAsgO 4 (few mNil)) (mSeq (mFor (mRange1 (mCons (mVar 2) mNil)) (gN 5) mCellB) (fun ρ => (mRet (mVar 4)) (frz 4 ρ))))) [.pu (.lst (s.map D.int)), .pu (.int t), .pu (.int m), .pu (.int c), .un, .un, .un] = some (.rt (.lst (ns.map D.int))) ∧ ns.length = m ∧ ∀ n ∈ ns, Low n := fun c => by
    have e0 : ∃ c', mIfS (mTest (mOp ltP (mVar 3) (mC (.int 0)))) (mAsg 3 (mOp subD (mC (.int 1)) (mOp mulD (mC (.int 2)) (mVar 3)))) mNext [.pu (.lst (s.map D.int)), .pu (.int t), .pu (.int m), .pu (.int c), .un, .un, .un] = some (.nx [.pu (.lst (s.map D.int)), .pu (.int t), .pu (.int m), .pu (.int c'), .un, .un, .un]) := by
      have ht : mTest (mOp ltP (mVar 3) (mC (.int 0))) [.pu (.lst (s.map D.int)), .pu (.int t), .pu (.int m), .pu (.int c), .un, .un, .un] = some (decide (c < 0)) := by
        simp only [e_test, e_op, e_var3, e_C, Option.bind_some, ltP_int, e_asB]
      by_cases hc : c < 0
      · rw [decide_eq_true hc] at ht
        have h1 : In (mOp subD (mC (.int 1)) (mOp mulD (mC (.int 2)) (mVar 3))) [.pu (.lst (s.map D.int)), .pu (.int t), .pu (.int m), .pu (.int c), .un, .un, .un] (1 - 2 * c) := in_sub rfl (in_mul rfl rfl (.inl (by decide)))
        exact ⟨_, (ev_ifS_t ht).trans (ev_asg' h1 rfl)⟩
      · rw [decide_eq_false hc] at ht
        exact ⟨c, (ev_ifS_f ht).trans rfl⟩
    obtain ⟨c', e0⟩ := e0
    obtain ⟨out, c2, x5, x6, e, l, o⟩ := for_cells (x0 := .pu (.lst (s.map D.int))) (x2 := .pu (.int m)) (t := t) ((List.range m).map fun (i : Nat) => (i : Int)) c' [] .un .un (by simp; omega) (by simp)
    refine ⟨out, ?_, by simpa using l, o⟩
    rw [ev_seq e0, ev_seq (rfl : mAsgO 4 (few mNil) _ = some (.nx [.pu (.lst (s.map D.int)), .pu (.int t), .pu (.int m), .pu (.int c'), .ow [], .un, .un]))]
    have e1 : mFor (mRange1 (mCons (mVar 2) mNil)) (gN 5) mCellB [.pu (.lst (s.map D.int)), .pu (.int t), .pu (.int m), .pu (.int c'), .ow [], .un, .un] = some (.nx [.pu (.lst (s.map D.int)), .pu (.int t), .pu (.int m), .pu (.int c2), .ow (out.map D.int), x5, x6]) := by
      unfold mFor
      rw [e_range1 (ev_cons rfl rfl) (by omega), Int.toNat_natCast, range_ints]
      exact e
    rw [ev_seq e1]
    rfl
  have e3 : In (mOp mulD (mC (.int 1000003)) (mOp addD (mVar 1) (mC (.int 1)))) [.pu (.lst (s.map D.int)), .pu (.int t), .pu (.int m), .un, .un, .un, .un] (1000003 * ((t : Int) + 1)) := in_mul rfl (in_add rfl rfl) (.inl (by decide))
  have e4 : ∃ c, mIfS (mTest (mOp ltP (mVar 1) (mCall lenD (mCons (mVar 0) mNil)))) (mAsg 3 (mCall intF (mCons (mOp ixD (mVar 0) (mVar 1)) mNil))) mNext [.pu (.lst (s.map D.int)), .pu (.int t), .pu (.int m), .pu (.int (1000003 * ((t : Int) + 1))), .un, .un, .un] = some (.nx [.pu (.lst (s.map D.int)), .pu (.int t), .pu (.int m), .pu (.int c), .un, .un, .un]) := by
    have ht : mTest (mOp ltP (mVar 1) (mCall lenD (mCons (mVar 0) mNil))) [.pu (.lst (s.map D.int)), .pu (.int t), .pu (.int m), .pu (.int (1000003 * ((t : Int) + 1))), .un, .un, .un] = some (decide ((t : Int) < (s.length : Int))) := by
      simp only [e_test, e_op, e_var1, e_var0, e_call, e_cons, e_nil, Option.bind_some, Option.map_some, e_lenL, List.length_map, ltP_int, e_asB]
    by_cases hlt : t < s.length
    · rw [decide_eq_true (by omega)] at ht
      have ei : mOp ixD (mVar 0) (mVar 1) [.pu (.lst (s.map D.int)), .pu (.int t), .pu (.int m), .pu (.int (1000003 * ((t : Int) + 1))), .un, .un, .un] = some (.int s[t]) := by
        rw [ev_op rfl rfl]
        have := ix_get (ds := s.map D.int) (k := t) (by rw [List.length_map]; exact hlt)
        rw [List.getElem_map] at this
        exact this
      exact ⟨s[t], (ev_ifS_t ht).trans (ev_asg' ((ev_call (ev_cons ei rfl)).trans rfl) rfl)⟩
    · rw [decide_eq_false (by omega)] at ht
      exact ⟨_, (ev_ifS_f ht).trans rfl⟩
  obtain ⟨c, e4⟩ := e4
  obtain ⟨ns, e5, l, o⟩ := fin c
  refine ⟨ns, ev_runF rfl ?_, l, o⟩
  show m__law_numbers [.pu (.lst (s.map D.int)), .pu (.int t), .pu (.int m), .un, .un, .un, .un] = _
  unfold m__law_numbers
  rw [ev_seq (ev_asg' e3 rfl)]
  refine (ev_seq e4).trans ?_
  exact e5
end KN

set_option Elab.async false
set_option linter.all false
set_option maxRecDepth 100000
set_option maxHeartbeats 4000000
namespace KN
open PySem PySem.Spec PyProof.Rows L2 Evl DD
/-! N12: _law_words -/
theorem any_strs (z : Str) : ∀ ys : List Str, ((ys.map PyData.str).any fun y => PyData.eqv y (.str z)) = decide (z ∈ ys)
  | [] => rfl
  | y :: ys => by
    rw [List.map_cons, List.any_cons, any_strs z ys, Bool.eq_iff_iff]
    simp only [PyData.eqv, Bool.or_eq_true, decide_eq_true_eq, List.mem_cons, beq_iff_eq]
    constructor
    · rintro (h | h)
      · exact .inl h.symm
      · exact .inr h
    · rintro (h | h)
      · exact .inl h.symm
      · exact .inr h
theorem inP_strs (z : Str) (ys : List Str) : inP (.val (.str z)) (.lst (ys.map .str)) = some (.bl (decide (z ∈ ys))) := by
  have e : inP (.val (.str z)) (.lst (ys.map .str)) = (memSeq (.val (.str z)) (.lst (ys.map .str))).map .bl := rfl
  have e2 : memSeq (.val (.str z)) (.lst (ys.map .str)) = (pds (ys.map D.str)).bind fun ps => if min (PyData.depthAll ps) 0 ≤ 180 then some (ps.any fun y => PyData.eqv y (.str z)) else none := rfl
  rw [e, e2, pds_strs, Option.bind_some, if_pos (by omega), any_strs]
  rfl
structure Wl (z : Str) : Prop where
  a : 1 ≤ z.length
  b : z.length ≤ 8
  c : (tl z).all isLet = true
theorem Wl.lab {z : Str} (h : Wl z) (hw : isWord z = false) : isLab z = true := by
  unfold isLab
  rw [h.c, hw, decide_eq_true h.a, decide_eq_true h.b]
  rfl
theorem wl_of {z : Str} (h : isLab z = true) : Wl z := by
  simp only [isLab, Bool.and_eq_true, decide_eq_true_eq] at h
  exact ⟨h.1.1.1, h.1.1.2, h.1.2⟩
theorem ix_letter {i : Int} (h0 : 0 ≤ i) (h1 : i < 26) : ∃ c, isLet c = true ∧ ixD (.val (.str "abcdefghijklmnopqrstuvwxyz")) (.val (.int i)) = some (.str ⟨#[c]⟩) := by
  have hb : ("abcdefghijklmnopqrstuvwxyz" : Str).length ≤ big := by decide +kernel
  have hn : (tl "abcdefghijklmnopqrstuvwxyz").length = 26 := by decide +kernel
  obtain ⟨c, hc, e⟩ := at_mem (xs := tl "abcdefghijklmnopqrstuvwxyz") h0 (by rw [hn]; exact h1)
  refine ⟨c, ?_, ?_⟩
  · rw [← isLet_mem]
    exact decide_eq_true hc
  · show (if ("abcdefghijklmnopqrstuvwxyz" : Str).length ≤ big then (atI (tl "abcdefghijklmnopqrstuvwxyz") i).map fun c => D.str ⟨#[c]⟩ else none) = _
    rw [if_pos hb, e]
    rfl
theorem num_ix' {ns : List Int} {m : Nat} (hl : ns.length = m) (ho : ∀ n ∈ ns, Low n) {i : Int} (h0 : 0 ≤ i) (h1 : i < m) : ∃ n, ixD (.lst (ns.map D.int)) (.int i) = some (.int n) ∧ Low n := by
  obtain ⟨x, hx, e⟩ := at_mem (xs := ns.map D.int) h0 (by rw [List.length_map, hl]; exact h1)
  obtain ⟨n, hn, rfl⟩ := List.mem_map.mp hx
  exact ⟨n, e, ho n hn⟩
abbrev resW : List Str := ["and", "or", "not"]
abbrev mLetB : MS := mAsg 6 (mOp addD (mVar 6) (mOp ixD (mC (.str "abcdefghijklmnopqrstuvwxyz")) (mOp modD (mOp ixD (mVar 3) (mOp addD (mOp addD (mOp mulD (mC (.int 9)) (mVar 5)) (mC (.int 1))) (mVar 7))) (mC (.int 26)))))
abbrev mSpareB : MS := mIfS (fun ρ => (mTest (mOp inP (mVar 6) (mOp addD (mVar 4) (mLst (few (mCons (mC (.str "and")) (mCons (mC (.str "or")) (mCons (mC (.str "not")) mNil)))))))) (frz 4 ρ)) (mAsg 6 (mVar 8)) mNext
section
variable {x0 x1 x2 x7 x8 : DE} {ns : List Int} {found : List Str} {j : Int}
theorem let_step (hl : ns.length = 60) (ho : ∀ n ∈ ns, Low n) (j0 : 0 ≤ j) (j1 : j ≤ 2) {k : Int} (k0 : 0 ≤ k) (k1 : k ≤ 8) {z : Str} (hz : z.length ≤ 8) (hc : (tl z).all isLet = true) : ∃ z', z'.length = z.length + 1 ∧ (tl z').all isLet = true ∧
    mLetB [x0, x1, x2, .pu (.lst (ns.map D.int)), .ow (found.map .str), .pu (.int j), .pu (.str z), .pu (.int k), x8] = some (.nx [x0, x1, x2, .pu (.lst (ns.map D.int)), .ow (found.map .str), .pu (.int j), .pu (.str z'), .pu (.int k), x8]) := by
  generalize hρ : [x0, x1, x2, DE.pu (.lst (ns.map D.int)), .ow (found.map .str), .pu (.int j), .pu (.str z), .pu (.int k), x8] = ρ
  have v3 : mVar 3 ρ = some (.lst (ns.map D.int)) := by rw [← hρ]; rfl
  have v5 : In (mVar 5) ρ j := by rw [← hρ]; rfl
  have v6 : mVar 6 ρ = some (.str z) := by rw [← hρ]; rfl
  have v7 : In (mVar 7) ρ k := by rw [← hρ]; rfl
  have e1 : In (mOp addD (mOp addD (mOp mulD (mC (.int 9)) (mVar 5)) (mC (.int 1))) (mVar 7)) ρ (9 * j + 1 + k) := in_add (in_add (in_mul rfl v5 (.inl (by decide))) rfl) v7
  obtain ⟨a, ea, la⟩ := num_ix' hl ho (i := 9 * j + 1 + k) (by omega) (by omega)
  have e2 : In (mOp modD (mOp ixD (mVar 3) (mOp addD (mOp addD (mOp mulD (mC (.int 9)) (mVar 5)) (mC (.int 1))) (mVar 7))) (mC (.int 26))) ρ (a % 26) := in_mod ((ev_op v3 e1).trans ea) rfl (by decide)
  obtain ⟨c, hc2, ec⟩ := ix_letter (Int.emod_nonneg a (b := 26) (by decide)) (Int.emod_lt_of_pos a (b := 26) (by decide))
  have e3 : mOp ixD (mC (.str "abcdefghijklmnopqrstuvwxyz")) (mOp modD (mOp ixD (mVar 3) (mOp addD (mOp addD (mOp mulD (mC (.int 9)) (mVar 5)) (mC (.int 1))) (mVar 7))) (mC (.int 26))) ρ = some (.str ⟨#[c]⟩) := (ev_op rfl e2).trans ec
  have e4 : addD (.str z) (.str ⟨#[c]⟩) = some (.str (z ++ ⟨#[c]⟩)) := if_pos (by
    show z.length + 1 ≤ big
    rw [big_eq]
    omega)
  refine ⟨z ++ ⟨#[c]⟩, ?_, ?_, ?_⟩
  · rw [len_tl, tl_app, List.length_append, ← len_tl]
    rfl
  · rw [tl_app, List.all_append, hc]
    show (true && ([c].all isLet)) = true
    simp [hc2]
  · rw [show mLetB ρ = _ from ev_asg ((ev_op v6 e3).trans e4), ← hρ]
    rfl
theorem for_let (hl : ns.length = 60) (ho : ∀ n ∈ ns, Low n) (j0 : 0 ≤ j) (j1 : j ≤ 2) : ∀ (ks : List Int) (z : Str) (x7 : DE), (∀ k ∈ ks, 0 ≤ k ∧ k ≤ 8) → z.length + ks.length ≤ 8 → (tl z).all isLet = true →
    ∃ (z' : Str) (y7 : DE), forL (gN 7) mLetB (ks.map D.int) [x0, x1, x2, .pu (.lst (ns.map D.int)), .ow (found.map .str), .pu (.int j), .pu (.str z), x7, x8] = some (.nx [x0, x1, x2, .pu (.lst (ns.map D.int)), .ow (found.map .str), .pu (.int j), .pu (.str z'), y7, x8]) ∧ z'.length = z.length + ks.length ∧ (tl z').all isLet = true
  | [], z, x7, _, _, hc => ⟨z, x7, rfl, rfl, hc⟩
  | k :: ks, z, x7, hk, hz, hc => by
    rw [List.length_cons] at hz
    obtain ⟨z1, l1, c1, e1⟩ := let_step (x0 := x0) (x1 := x1) (x2 := x2) (x8 := x8) (found := found) hl ho j0 j1 (hk k List.mem_cons_self).1 (hk k List.mem_cons_self).2 (z := z) (by omega) hc
    obtain ⟨z', y7, e2, l2, c2⟩ := for_let hl ho j0 j1 ks z1 (.pu (.int k)) (fun k hm => hk k (List.mem_cons_of_mem _ hm)) (by omega) c1
    refine ⟨z', y7, ?_, by rw [l2, l1, List.length_cons]; omega, c2⟩
    rw [List.map_cons, for_cons_nx rfl e1]
    exact e2
theorem spare_step (hf : found.length ≤ 100) {z p : Str} : mSpareB [x0, x1, x2, .pu (.lst (ns.map D.int)), .ow (found.map .str), .pu (.int j), .pu (.str z), x7, .pu (.str p)] = some (.nx [x0, x1, x2, .pu (.lst (ns.map D.int)), .ow (found.map .str), .pu (.int j), .pu (.str (if z ∈ found ++ resW then p else z)), x7, .pu (.str p)]) := by
  have ht : (fun ρ => (mTest (mOp inP (mVar 6) (mOp addD (mVar 4) (mLst (few (mCons (mC (.str "and")) (mCons (mC (.str "or")) (mCons (mC (.str "not")) mNil)))))))) (frz 4 ρ)) [x0, x1, x2, .pu (.lst (ns.map D.int)), .ow (found.map .str), .pu (.int j), .pu (.str z), x7, .pu (.str p)] = some (decide (z ∈ found ++ resW)) := by
    show mTest (mOp inP (mVar 6) (mOp addD (mVar 4) (mLst (few (mCons (mC (.str "and")) (mCons (mC (.str "or")) (mCons (mC (.str "not")) mNil))))))) [x0, x1, x2, .pu (.lst (ns.map D.int)), .pu (.lst (found.map .str)), .pu (.int j), .pu (.str z), x7, .pu (.str p)] = _
    have e1 : mOp addD (mVar 4) (mLst (few (mCons (mC (.str "and")) (mCons (mC (.str "or")) (mCons (mC (.str "not")) mNil))))) [x0, x1, x2, .pu (.lst (ns.map D.int)), .pu (.lst (found.map .str)), .pu (.int j), .pu (.str z), x7, .pu (.str p)] = some (.lst ((found ++ resW).map .str)) := by
      rw [ev_op rfl (rfl : _ = some (D.lst [.str "and", .str "or", .str "not"])), List.map_append]
      refine if_pos ?_
      rw [List.length_map, big_eq]
      show found.length + 3 ≤ _
      omega
    rw [ev_test ((ev_op rfl e1).trans (inP_strs z _))]
    rfl
  by_cases hm : z ∈ found ++ resW
  · rw [decide_eq_true hm] at ht
    rw [if_pos hm]
    exact (ev_ifS_t (t := fun ρ => (mTest (mOp inP (mVar 6) (mOp addD (mVar 4) (mLst (few (mCons (mC (.str "and")) (mCons (mC (.str "or")) (mCons (mC (.str "not")) mNil)))))))) (frz 4 ρ)) ht).trans rfl
  · rw [decide_eq_false hm] at ht
    rw [if_neg hm]
    exact (ev_ifS_f (t := fun ρ => (mTest (mOp inP (mVar 6) (mOp addD (mVar 4) (mLst (few (mCons (mC (.str "and")) (mCons (mC (.str "or")) (mCons (mC (.str "not")) mNil)))))))) (frz 4 ρ)) ht).trans rfl
theorem not_word {z : Str} {l : List Str} (h : z ∉ l ++ resW) : isWord z = false := by
  have h2 : z ∉ resW := fun hm => h (List.mem_append_right _ hm)
  simp only [List.mem_cons, List.not_mem_nil, or_false, not_or] at h2
  unfold isWord
  rw [decide_eq_false h2.1, decide_eq_false h2.2.1, decide_eq_false h2.2.2]
  rfl
theorem for_spare (hf : found.length ≤ 100) : ∀ (ps : List Str) (z : Str) (x8 : DE), (∀ p ∈ ps, isLab p = true) → Wl z → (ps ≠ [] ∨ isLab z = true) →
    ∃ (z' : Str) (y8 : DE), forL (gN 8) mSpareB (ps.map D.str) [x0, x1, x2, .pu (.lst (ns.map D.int)), .ow (found.map .str), .pu (.int j), .pu (.str z), x7, x8] = some (.nx [x0, x1, x2, .pu (.lst (ns.map D.int)), .ow (found.map .str), .pu (.int j), .pu (.str z'), x7, y8]) ∧ isLab z' = true
  | [], z, x8, _, _, h => ⟨z, x8, rfl, h.resolve_left fun h => h rfl⟩
  | p :: ps, z, x8, hp, hz, _ => by
    have e1 := spare_step (x0 := x0) (x1 := x1) (x2 := x2) (x7 := x7) (ns := ns) (j := j) hf (z := z) (p := p)
    have hl : isLab (if z ∈ found ++ resW then p else z) = true := by
      by_cases hm : z ∈ found ++ resW
      · rw [if_pos hm]
        exact hp p List.mem_cons_self
      · rw [if_neg hm]
        exact hz.lab (not_word hm)
    generalize (if z ∈ found ++ resW then p else z) = z1 at e1 hl
    obtain ⟨z', y8, e2, l2⟩ := for_spare hf ps z1 (.pu (.str p)) (fun q hm => hp q (List.mem_cons_of_mem _ hm)) (wl_of hl) (.inr hl)
    refine ⟨z', y8, ?_, l2⟩
    rw [List.map_cons, for_cons_nx rfl e1]
    exact e2
end
end KN

set_option Elab.async false
set_option linter.all false
set_option maxRecDepth 100000
set_option maxHeartbeats 4000000
namespace KN
open PySem PySem.Spec PyProof.Rows L2 Evl DD
/-! N13: _law_words, the end -/
theorem ev_for {mi : MA} {f : D → DEnv → Option DEnv} {body : MS} {ρ : DEnv} {ds : List D} (h : mi ρ = some ds) : mFor mi f body ρ = forL f body ds ρ := by
  unfold mFor
  rw [h]
  rfl
abbrev mHowMany : ME := mOp addD (mC (.int 1)) (mOp modD (mOp ixD (mVar 3) (mOp mulD (mC (.int 9)) (mVar 5))) (mOp ixD (mLst (few (mCons (mC (.int 3)) (mCons (mC (.int 8)) (mCons (mC (.int 1)) mNil))))) (mOp modD (mVar 5) (mC (.int 3)))))
abbrev mWordB : MS := mSeq (mAsg 6 (mC (.str ""))) (mSeq (mFor (mRange1 (mCons mHowMany mNil)) (gN 7) mLetB) (mSeq (mFor (mItems (mLst (few (mCons (mC (.str "qa")) (mCons (mC (.str "qb")) (mCons (mC (.str "qc")) (mCons (mC (.str "qd")) (mCons (mC (.str "qe")) (mCons (mC (.str "qf")) mNil))))))))) (gN 8) mSpareB) (mApp 4 (mVar 6))))
def spares : List Str := ["qa", "qb", "qc", "qd", "qe", "qf"]
theorem spares_lab : ∀ p ∈ spares, isLab p = true := by decide +kernel
theorem Wl.of {z : Str} {n : Nat} (h : z.length = n) (h1 : 1 ≤ n) (h2 : n ≤ 8) (hc : (tl z).all isLet = true) : Wl z := ⟨by omega, by omega, hc⟩
section
variable {x0 x1 x2 x6 x7 x8 : DE} {ns : List Int} {found : List Str} {j : Int}
theorem many_ok (hl : ns.length = 60) (ho : ∀ n ∈ ns, Low n) (j0 : 0 ≤ j) (j1 : j ≤ 2) : ∃ n : Nat, 1 ≤ n ∧ n ≤ 8 ∧ mRange1 (mCons mHowMany mNil) [x0, x1, x2, .pu (.lst (ns.map D.int)), .ow (found.map .str), .pu (.int j), x6, x7, x8] = some (((List.range n).map fun (i : Nat) => (i : Int)).map D.int) := by
  generalize hρ : [x0, x1, x2, DE.pu (.lst (ns.map D.int)), .ow (found.map .str), .pu (.int j), x6, x7, x8] = ρ
  have v3 : mVar 3 ρ = some (.lst (ns.map D.int)) := by rw [← hρ]; rfl
  have v5 : In (mVar 5) ρ j := by rw [← hρ]; rfl
  have e1 : In (mOp mulD (mC (.int 9)) (mVar 5)) ρ (9 * j) := in_mul rfl v5 (.inl (by decide))
  obtain ⟨a, ea, la⟩ := num_ix' hl ho (i := 9 * j) (by omega) (by omega)
  have e2 : In (mOp ixD (mVar 3) (mOp mulD (mC (.int 9)) (mVar 5))) ρ a := (ev_op v3 e1).trans ea
  have e3 : In (mOp modD (mVar 5) (mC (.int 3))) ρ (j % 3) := in_mod v5 rfl (by decide)
  obtain ⟨y, hy, ey⟩ := at_mem (xs := [D.int 3, D.int 8, D.int 1]) (Int.emod_nonneg j (b := 3) (by decide)) (Int.emod_lt_of_pos j (b := 3) (by decide))
  have hy' : ∃ c, y = D.int c ∧ 1 ≤ c ∧ c ≤ 8 := by
    simp only [List.mem_cons, List.not_mem_nil, or_false] at hy
    rcases hy with rfl | rfl | rfl
    · exact ⟨3, rfl, by decide⟩
    · exact ⟨8, rfl, by decide⟩
    · exact ⟨1, rfl, by decide⟩
  obtain ⟨c, rfl, c1, c8⟩ := hy'
  have e4 : In (mOp ixD (mLst (few (mCons (mC (.int 3)) (mCons (mC (.int 8)) (mCons (mC (.int 1)) mNil))))) (mOp modD (mVar 5) (mC (.int 3)))) ρ c := (ev_op (rfl : _ = some (D.lst [D.int 3, D.int 8, D.int 1])) e3).trans (show ixD (.lst [D.int 3, D.int 8, D.int 1]) (.int (j % 3)) = some (D.int c) from ey)
  have e5 : In mHowMany ρ (1 + a % c) := in_add rfl (in_mod e2 e4 (by omega))
  have m0 := Int.emod_nonneg a (b := c) (by omega)
  have m1 := Int.emod_lt_of_pos a (b := c) (by omega)
  refine ⟨(1 + a % c).toNat, by omega, by omega, ?_⟩
  rw [e_range1 (ev_cons e5 rfl) (by omega), range_ints]
theorem word_step (hl : ns.length = 60) (ho : ∀ n ∈ ns, Low n) (j0 : 0 ≤ j) (j1 : j ≤ 2) (hf : found.length ≤ 100) : ∃ (z : Str) (y7 y8 : DE), isLab z = true ∧
    mWordB [x0, x1, x2, .pu (.lst (ns.map D.int)), .ow (found.map .str), .pu (.int j), x6, x7, x8] = some (.nx [x0, x1, x2, .pu (.lst (ns.map D.int)), .ow ((found ++ [z]).map .str), .pu (.int j), .pu (.str z), y7, y8]) := by
  obtain ⟨n, n1, n8, e1⟩ := many_ok (x0 := x0) (x1 := x1) (x2 := x2) (x6 := .pu (.str "")) (x7 := x7) (x8 := x8) (found := found) hl ho j0 j1
  obtain ⟨z, y7, e2, l2, c2⟩ := for_let (x0 := x0) (x1 := x1) (x2 := x2) (x8 := x8) (found := found) hl ho j0 j1 ((List.range n).map fun (i : Nat) => (i : Int)) "" x7 (fun k hk => by
    obtain ⟨i, hi, rfl⟩ := List.mem_map.mp hk
    rw [List.mem_range] at hi
    omega) (by rw [List.length_map, List.length_range]; show 0 + n ≤ 8; omega) (by decide)
  rw [List.length_map, List.length_range] at l2
  obtain ⟨z', y8, e3, l3⟩ := for_spare (x0 := x0) (x1 := x1) (x2 := x2) (x7 := y7) (ns := ns) (j := j) hf spares z x8 spares_lab (Wl.of (n := n) (l2.trans (Nat.zero_add n)) n1 n8 c2) (.inl (by decide))
  refine ⟨z', y7, y8, l3, ?_⟩
  have s1 : mAsg 6 (mC (.str "")) [x0, x1, x2, .pu (.lst (ns.map D.int)), .ow (found.map .str), .pu (.int j), x6, x7, x8] = some (.nx [x0, x1, x2, .pu (.lst (ns.map D.int)), .ow (found.map .str), .pu (.int j), .pu (.str ""), x7, x8]) := rfl
  have s2 : mFor (mRange1 (mCons mHowMany mNil)) (gN 7) mLetB [x0, x1, x2, .pu (.lst (ns.map D.int)), .ow (found.map .str), .pu (.int j), .pu (.str ""), x7, x8] = _ := (ev_for e1).trans e2
  have s3 : mFor (mItems (mLst (few (mCons (mC (.str "qa")) (mCons (mC (.str "qb")) (mCons (mC (.str "qc")) (mCons (mC (.str "qd")) (mCons (mC (.str "qe")) (mCons (mC (.str "qf")) mNil))))))))) (gN 8) mSpareB [x0, x1, x2, .pu (.lst (ns.map D.int)), .ow (found.map .str), .pu (.int j), .pu (.str z), y7, x8] = _ := (ev_for (rfl : _ = some (spares.map D.str))).trans e3
  have s4 : mApp 4 (mVar 6) [x0, x1, x2, .pu (.lst (ns.map D.int)), .ow (found.map .str), .pu (.int j), .pu (.str z'), y7, y8] = some (.nx [x0, x1, x2, .pu (.lst (ns.map D.int)), .ow ((found ++ [z']).map .str), .pu (.int j), .pu (.str z'), y7, y8]) := by
    show (if (found.map D.str).length < big then some (Out.nx [x0, x1, x2, .pu (.lst (ns.map D.int)), .ow (found.map .str ++ [.str z']), .pu (.int j), .pu (.str z'), y7, y8]) else none) = _
    rw [List.map_append]
    refine if_pos ?_
    rw [List.length_map, big_eq]
    omega
  exact (ev_seq s1).trans ((ev_seq s2).trans ((ev_seq s3).trans s4))
theorem for_words (hl : ns.length = 60) (ho : ∀ n ∈ ns, Low n) : ∀ (js : List Int) (found : List Str) (x5 x6 x7 x8 : DE), (∀ j ∈ js, 0 ≤ j ∧ j ≤ 2) → found.length + js.length ≤ 100 → (∀ z ∈ found, isLab z = true) →
    ∃ (out : List Str) (y5 y6 y7 y8 : DE), forL (gN 5) mWordB (js.map D.int) [x0, x1, x2, .pu (.lst (ns.map D.int)), .ow (found.map .str), x5, x6, x7, x8] = some (.nx [x0, x1, x2, .pu (.lst (ns.map D.int)), .ow (out.map .str), y5, y6, y7, y8]) ∧ out.length = found.length + js.length ∧ ∀ z ∈ out, isLab z = true
  | [], found, x5, x6, x7, x8, _, _, hf => ⟨found, x5, x6, x7, x8, rfl, rfl, hf⟩
  | j :: js, found, x5, x6, x7, x8, hj, hz, hf => by
    rw [List.length_cons] at hz
    obtain ⟨z, y7, y8, lz, e1⟩ := word_step (x0 := x0) (x1 := x1) (x2 := x2) (x6 := x6) (x7 := x7) (x8 := x8) (found := found) hl ho (hj j List.mem_cons_self).1 (hj j List.mem_cons_self).2 (by omega)
    obtain ⟨out, w5, w6, w7, w8, e2, l2, o2⟩ := for_words hl ho js (found ++ [z]) (.pu (.int j)) (.pu (.str z)) y7 y8 (fun j hm => hj j (List.mem_cons_of_mem _ hm)) (by rw [List.length_append, List.length_singleton]; omega) (fun y hy => by
      rcases List.mem_append.mp hy with h | h
      · exact hf y h
      · rw [List.mem_singleton] at h; rw [h]; exact lz)
    refine ⟨out, w5, w6, w7, w8, ?_, by rw [l2, List.length_append, List.length_singleton, List.length_cons]; omega, o2⟩
    rw [List.map_cons, for_cons_nx rfl e1]
    exact e2
end
theorem F_lawWords_ok (s : List Int) {t : Nat} (ht : t ≤ 1000) : ∃ zs : List Str, F__law_words [.lst (s.map D.int), .int (t : Int), .int 3] = some (.lst (zs.map .str)) ∧ zs.length = 3 ∧ ∀ z ∈ zs, isLab z = true := by
  obtain ⟨ns, en, hl, ho⟩ := F_numbers_law s (t := t) (m := 60) (by decide) ht
  obtain ⟨out, y5, y6, y7, y8, e, l, o⟩ := for_words (x0 := .pu (.lst (s.map D.int))) (x1 := .pu (.int t)) (x2 := .pu (.int 3)) hl ho [0, 1, 2] [] .un .un .un .un (by decide) (by decide) (by simp)
  refine ⟨out, F_of rfl ?_, l, o⟩
  show m__law_words [.pu (.lst (s.map D.int)), .pu (.int t), .pu (.int 3), .un, .un, .un, .un, .un, .un] = _
  unfold m__law_words
  have s1 : mCall F__law_numbers (mCons (mVar 0) (mCons (mVar 1) (mCons (mC (.int 60)) mNil))) [.pu (.lst (s.map D.int)), .pu (.int t), .pu (.int 3), .un, .un, .un, .un, .un, .un] = some (.lst (ns.map D.int)) := (ev_call (ev_cons rfl (ev_cons rfl (ev_cons rfl rfl)))).trans en
  rw [ev_seq (ev_asg' (ρ' := [.pu (.lst (s.map D.int)), .pu (.int t), .pu (.int 3), .pu (.lst (ns.map D.int)), .un, .un, .un, .un, .un]) s1 rfl)]
  rw [ev_seq (rfl : mAsgO 4 (few mNil) _ = some (.nx [.pu (.lst (s.map D.int)), .pu (.int t), .pu (.int 3), .pu (.lst (ns.map D.int)), .ow [], .un, .un, .un, .un]))]
  have s2 : mFor (mRange1 (mCons (mVar 2) mNil)) (gN 5) mWordB [.pu (.lst (s.map D.int)), .pu (.int t), .pu (.int 3), .pu (.lst (ns.map D.int)), .ow [], .un, .un, .un, .un] = _ := (ev_for (ds := [D.int 0, D.int 1, D.int 2]) ((e_range1 (ev_cons rfl rfl) (by decide)).trans rfl)).trans e
  refine (ev_seq s2).trans ?_
  rfl
end KN

set_option Elab.async false
set_option linter.all false
set_option maxRecDepth 100000
set_option maxHeartbeats 4000000
namespace KN
open PySem PySem.Spec PyProof.Rows L2 Evl DD
/-! N14: _law_some_atoms -/
theorem fall_none : ∀ (ps : List PyData) (i : Nat), ps.Pairwise (fun a b => PySem.W.dataLt a b = true) → fallAt i ps = none
  | [], i, _ => rfl
  | [a], i, _ => rfl
  | a :: b :: r, i, h => by
    have h1 := (List.pairwise_cons.mp h).1 b List.mem_cons_self
    have ih := fall_none (b :: r) (i + 1) (List.pairwise_cons.mp h).2
    show (if PySem.W.dataLt a b = true then fallAt (i + 1) (b :: r) else some i) = none
    rw [if_pos h1, ih]
structure Atoms (ns : List Int) : Prop where
  r : risesI ns = true
  b : ∀ n ∈ ns, 0 ≤ n ∧ n ≤ 36
  l : ns.length ≤ 7
def sq (p : Nat → Bool) (m : Nat) : List Int := ((List.range m).filter p).map fun (k : Nat) => ((k * k : Nat) : Int)
theorem atoms_sq (p : Nat → Bool) {m : Nat} (hm : m ≤ 7) : Atoms (sq p m) := by
  refine ⟨?_, fun n hn => ?_, ?_⟩
  · unfold risesI rises
    rw [fall_none]
    · rfl
    · unfold sq
      rw [List.map_map]
      refine List.Pairwise.map _ (fun a b h => ?_) (List.Pairwise.filter _ (List.pairwise_lt_range))
      show PySem.W.dataLt (.int ((a * a : Nat) : Int)) (.int ((b * b : Nat) : Int)) = true
      rw [PySem.W.dataLt_int]
      have : a * a < b * b := Nat.mul_lt_mul'' h h
      exact decide_eq_true (by omega)
  · unfold sq at hn
    obtain ⟨k, hk, rfl⟩ := List.mem_map.mp hn
    have h1 := List.mem_range.mp (List.mem_filter.mp hk).1
    have : k * k ≤ 6 * 6 := Nat.mul_le_mul (by omega) (by omega)
    omega
  · unfold sq
    rw [List.length_map]
    refine Nat.le_trans (List.length_filter_le _ _) ?_
    rw [List.length_range]
    exact hm
theorem two_ok {k : Nat} (hk : k < 7) {ρ : DEnv} (h2 : In (mVar 2) ρ (k : Int)) : ∃ c : Int, 0 < c ∧ c < 1073741824 ∧ In (mOp ixD (mTup (mCons (mC (.int 1)) (mCons (mC (.int 2)) (mCons (mC (.int 4)) (mCons (mC (.int 8)) (mCons (mC (.int 16)) (mCons (mC (.int 32)) (mCons (mC (.int 64)) mNil)))))))) (mVar 2)) ρ c := by
  obtain ⟨y, hy, ey⟩ := at_mem (xs := [D.int 1, .int 2, .int 4, .int 8, .int 16, .int 32, .int 64]) (i := (k : Int)) (by omega) (by simp; omega)
  have hy' : ∃ c : Int, y = D.int c ∧ 0 < c ∧ c < 1073741824 := by
    simp only [List.mem_cons, List.not_mem_nil, or_false] at hy
    rcases hy with rfl | rfl | rfl | rfl | rfl | rfl | rfl
    · exact ⟨1, rfl, by decide⟩
    · exact ⟨2, rfl, by decide⟩
    · exact ⟨4, rfl, by decide⟩
    · exact ⟨8, rfl, by decide⟩
    · exact ⟨16, rfl, by decide⟩
    · exact ⟨32, rfl, by decide⟩
    · exact ⟨64, rfl, by decide⟩
  obtain ⟨c, rfl, c0, c1⟩ := hy'
  exact ⟨c, c0, c1, (ev_op (rfl : _ = some (D.tup [D.int 1, .int 2, .int 4, .int 8, .int 16, .int 32, .int 64])) h2).trans (show ixD (.tup [D.int 1, .int 2, .int 4, .int 8, .int 16, .int 32, .int 64]) (.int (k : Int)) = some (D.int c) from ey)⟩
abbrev mBit : MT := mTest (mOp eqP (mOp modD (mOp fdivD (mVar 0) (mOp ixD (mTup (mCons (mC (.int 1)) (mCons (mC (.int 2)) (mCons (mC (.int 4)) (mCons (mC (.int 8)) (mCons (mC (.int 16)) (mCons (mC (.int 32)) (mCons (mC (.int 64)) mNil)))))))) (mVar 2))) (mC (.int 2))) (mC (.int 1)))
theorem bit_ok {k : Nat} (hk : k < 7) {ρ : DEnv} {a : Int} (h0 : In (mVar 0) ρ a) (h2 : In (mVar 2) ρ (k : Int)) : ∃ b, mBit ρ = some b := by
  obtain ⟨c, c0, c1, e⟩ := two_ok hk h2
  have e2 := in_mod (in_div h0 e ⟨c0, c1⟩) (rfl : In (mC (.int 2)) ρ 2) (by decide)
  exact ⟨decide (a / c % 2 = 1), (ev_test ((ev_op e2 rfl).trans (eqP_int _ _))).trans rfl⟩
theorem F_someAtoms_ok (a : Int) {m : Nat} (hm : m ≤ 7) : ∃ ns, F__law_some_atoms [.int a, .int (m : Int)] = some (tupI ns) ∧ Atoms ns := by
  have hbit : ∀ k : Nat, ∃ b : Bool, k < 7 → mBit [.pu (.int a), .pu (.int m), .pu (.int (k : Int))] = some b := fun k => by
    by_cases hk : k < 7
    · obtain ⟨b, h⟩ := bit_ok hk (ρ := [.pu (.int a), .pu (.int m), .pu (.int (k : Int))]) rfl rfl
      exact ⟨b, fun _ => h⟩
    · exact ⟨true, fun h => absurd h hk⟩
  obtain ⟨p, hp⟩ := Classical.axiomOfChoice hbit
  refine ⟨sq p m, F_of rfl ?_, atoms_sq p hm⟩
  show m__law_some_atoms [.pu (.int a), .pu (.int m), .un] = _
  unfold m__law_some_atoms
  refine ev_ret ?_
  have e1 : lcL (gN 2) mBit (mOp mulD (mVar 2) (mVar 2)) [.pu (.int a), .pu (.int m), .un] (((List.range m).map fun (i : Nat) => (i : Int)).map D.int) = some ((sq p m).map D.int) := by
    have := lc_gen (set := gN 2) (cond := mBit) (elt := mOp mulD (mVar 2) (mVar 2)) (ρ := [.pu (.int a), .pu (.int m), .un])
      (p := fun d => match d with
        | .val (.int i) => p i.toNat
        | _ => false)
      (g := fun d => match d with
        | .val (.int i) => .int (i * i)
        | _ => .non) (ds := (((List.range m).map fun (i : Nat) => (i : Int)).map D.int)) (fun d hd => by
        obtain ⟨i, hi, rfl⟩ := List.mem_map.mp hd
        obtain ⟨k, hk, rfl⟩ := List.mem_map.mp hi
        rw [List.mem_range] at hk
        refine ⟨_, rfl, ?_, fun _ => ?_⟩
        · have := hp k (by omega)
          rw [show [DE.pu (D.int a), .pu (.int m), .un].set 2 (.pu (D.int (k : Int))) = [.pu (.int a), .pu (.int m), .pu (.int (k : Int))] from rfl, this]
          show some (p k) = some (p ((k : Int)).toNat)
          rw [Int.toNat_natCast]
        · have v2 : In (mVar 2) [DE.pu (D.int a), .pu (.int m), .pu (.int (k : Int))] (k : Int) := rfl
          exact in_mul v2 v2 (.inl (by omega)))
    rw [this]
    congr 1
    unfold sq
    rw [List.filter_map, List.filter_map, List.map_map, List.map_map, List.map_map]
    have ef : (fun (i : Nat) => p ((i : Int)).toNat) = p := by funext i; rw [Int.toNat_natCast]
    show List.map _ (List.filter (fun (i : Nat) => p ((i : Int)).toNat) (List.range m)) = _
    rw [ef]
    apply List.map_congr_left
    intro k _
    show D.int ((k : Int) * (k : Int)) = D.int ((k * k : Nat) : Int)
    rw [Int.natCast_mul]
  have e2 : mLst (mLc (mRange1 (mCons (mVar 1) mNil)) (gN 2) mBit (mOp mulD (mVar 2) (mVar 2)) [2]) [.pu (.int a), .pu (.int m), .un] = some (.lst ((sq p m).map D.int)) := by
    refine ev_lst ?_
    have er : mRange1 (mCons (mVar 1) mNil) [.pu (.int a), .pu (.int m), .un] = some (((List.range m).map fun (i : Nat) => (i : Int)).map D.int) := by
      rw [e_range1 (ev_cons rfl rfl) (by omega), Int.toNat_natCast, range_ints]
    rw [ev_lc er (by rw [List.length_map, List.length_map, List.length_range]; omega)]
    exact e1
  exact (ev_call (ev_cons e2 rfl)).trans rfl
end KN

set_option Elab.async false
set_option linter.all false
set_option maxRecDepth 100000
set_option maxHeartbeats 4000000
namespace KN
open PySem PySem.Spec PyProof.Rows L2 Evl DD PySem.W
/-! N15: sorted data; dicts whose value is told by the key -/
theorem lt_irr (a : PyData) : dataLt a a = false := lex_irrefl _
theorem lt_trans {a b c : PyData} (h1 : dataLt a b = true) (h2 : dataLt b c = true) : dataLt a c = true := lex_trans _ _ _ h1 h2
theorem lt_asym {a b : PyData} (h : dataLt a b = true) : dataLt b a = false := by
  cases e : dataLt b a with
  | false => rfl
  | true => exact absurd (lt_trans h e) (by rw [lt_irr]; exact Bool.false_ne_true)
theorem lt_tri {x y : PyData} (h : alike x y = true) (h1 : dataLt x y = false) (h2 : dataLt y x = false) : PyData.eqv x y = true := by
  have e : keyToks x = keyToks y := lex_total (O := itemOrd) (keyToks x) (keyToks y) h1 h2
  cases q : PyData.eqv x y with
  | true => rfl
  | false =>
    have := (toks_eqv x y h).2 q [] [.inl 0]
    rw [e] at this
    rw [lex_pre, lex_irrefl] at this
    exact absurd this (by decide)
section
variable {α : Type} (p : α → PyData)
def leA (a b : α) : Bool := !dataLt (p b) (p a)
def sortA (al : List α) : List α := al.mergeSort (leA p)
theorem sortA_perm (al : List α) : (sortA p al).Perm al := List.mergeSort_perm _ _
theorem sortA_le (al : List α) : (sortA p al).Pairwise fun a b => leA p a b = true := by
  refine List.pairwise_mergeSort (fun a b c h1 h2 => ?_) (fun a b => ?_) al
  · unfold leA at h1 h2 ⊢
    rw [Bool.not_eq_true'] at h1 h2 ⊢
    cases e : dataLt (p c) (p a) with
    | false => rfl
    | true =>
      rcases lex_negTrans (O := itemOrd) _ (keyToks (p b)) _ e with h | h
      · exact absurd (h2.symm.trans h) Bool.false_ne_true
      · exact absurd (h1.symm.trans h) Bool.false_ne_true
  · unfold leA
    cases e : dataLt (p b) (p a) with
    | false => rfl
    | true => rw [lt_asym e]; rfl
theorem sortA_rises (hal : ∀ a b, alike (p a) (p b) = true) (hi : ∀ a b, PyData.eqv (p a) (p b) = true → a = b) {al : List α} (hn : al.Nodup) : ((sortA p al).map p).Pairwise fun a b => dataLt a b = true := by
  have hn2 : (sortA p al).Nodup := (sortA_perm p al).nodup_iff.mpr hn
  refine List.Pairwise.map p (R := fun a b => dataLt (p a) (p b) = true) (fun _ _ h => h) ?_
  have h2 : (sortA p al).Pairwise fun a b => leA p a b = true ∧ a ≠ b := (sortA_le p al).and hn2
  refine h2.imp fun {a b} h => ?_
  have h1 : dataLt (p b) (p a) = false := by
    have := h.1
    unfold leA at this
    rwa [Bool.not_eq_true'] at this
  cases e : dataLt (p a) (p b) with
  | true => rfl
  | false => exact absurd (hi a b (lt_tri (hal a b) e h1)) h.2
theorem sortZ_map {t : α → D} (al : List α) : sortZ ((al.map t).zip (al.map p)) = (sortA p al).map t := by
  unfold sortZ sortA
  have e : (al.map t).zip (al.map p) = al.map fun a => (t a, p a) := by
    induction al with
    | nil => rfl
    | cons a al ih => rw [List.map_cons, List.map_cons, List.zip_cons_cons, ih, List.map_cons]
  rw [e]
  have := List.map_mergeSort (r := leA p) (s := leZ) (f := fun a => (t a, p a)) (l := al) fun a _ b _ => rfl
  rw [← this, List.map_map]
  rfl
theorem sortN_ok {t : α → D} (ht : ∀ a, pd (t a) = some (p a)) {al : List α} (ho : sortOk (al.map p) = true) : sortND [.lst (al.map t)] = some (.lst ((sortA p al).map t)) := by
  show ((pds (al.map t)).bind fun ps => if sortOk ps = true then some (D.lst (sortZ ((al.map t).zip ps))) else none) = _
  rw [pds_map ht, Option.bind_some, if_pos ho, sortZ_map]
theorem sortOk_tup (hal : ∀ a b, alike (p a) (p b) = true) (hd : ∀ a, (p a).depth ≤ 180) (ht : ∀ a, isTupNE (p a) = true) (al : List α) : sortOk (al.map p) = true := by
  unfold sortOk
  simp only [Bool.and_eq_true, Bool.or_eq_true, List.all_eq_true, decide_eq_true_eq]
  refine ⟨⟨fun x hx y hy => ?_, .inl fun x hx => ?_⟩, fun x hx => ?_⟩
  · obtain ⟨a, _, rfl⟩ := List.mem_map.mp hx
    obtain ⟨b, _, rfl⟩ := List.mem_map.mp hy
    exact hal a b
  · obtain ⟨a, _, rfl⟩ := List.mem_map.mp hx
    exact ht a
  · obtain ⟨a, _, rfl⟩ := List.mem_map.mp hx
    exact hd a
end
/-! ### dicts -/
section
variable {α : Type} [DecidableEq α] {t v : α → D} {u : α → NestedKey}
structure Ky (t : α → D) (u : α → NestedKey) : Prop where
  n : ∀ a, nk (t a) = some (u a)
  i : ∀ a b, u a = u b → a = b
  d : ∀ a, (u a).depth ≤ 8
  t : ∀ a, ∃ ds, t a = .tup ds
theorem key_ok (k : Ky t u) (a : α) : keyD' (t a) = some (u a) := by
  obtain ⟨ds, e⟩ := k.t a
  have := k.n a
  unfold keyD'
  rw [e] at this ⊢
  dsimp only
  rw [this, Option.bind_some, if_pos (k.d a)]
theorem has_ok (k : Ky t u) (a : α) : ∀ al : List α, hasK (al.map fun b => (t b, v b)) (u a) = decide (a ∈ al)
  | [] => rfl
  | b :: al => by
    have ih := has_ok k a al
    unfold hasK at ih ⊢
    rw [List.map_cons, List.any_cons, ih, k.n b, Bool.eq_iff_iff]
    simp only [Bool.or_eq_true, decide_eq_true_eq, List.mem_cons, Option.some.injEq]
    constructor
    · rintro (h | h)
      · exact .inl (k.i _ _ h).symm
      · exact .inr h
    · rintro (h | h)
      · exact .inl (by rw [h])
      · exact .inr h
def addA (al : List α) (a : α) : List α := if a ∈ al then al else al ++ [a]
theorem put_ok (k : Ky t u) (a : α) (al : List α) : putD (al.map fun b => (t b, v b)) (u a) (t a) (v a) = (addA al a).map fun b => (t b, v b) := by
  unfold putD addA
  rw [has_ok k a al]
  by_cases h : a ∈ al
  · rw [decide_eq_true h, if_pos rfl, if_pos h, List.map_map]
    apply List.map_congr_left
    intro b _
    show (if nk (t b) = some (u a) then (t b, v a) else (t b, v b)) = (t b, v b)
    by_cases e : b = a
    · rw [e, if_pos (k.n a)]
    · rw [if_neg]
      rw [k.n b]
      exact fun h => e (k.i _ _ (Option.some.inj h))
  · rw [decide_eq_false h, if_neg Bool.false_ne_true, if_neg h, List.map_append]
    rfl
theorem get_ok (k : Ky t u) (a : α) : ∀ al : List α, a ∈ al → getD' (al.map fun b => (t b, v b)) (u a) = some (v a)
  | b :: al, h => by
    unfold getD'
    rw [List.map_cons, List.find?_cons, k.n b]
    by_cases e : b = a
    · subst e
      simp
    · have hne : ¬ (some (u b) = some (u a)) := fun h => e (k.i _ _ (Option.some.inj h))
      rw [decide_eq_false hne]
      rcases List.mem_cons.mp h with h | h
      · exact absurd h.symm e
      · exact get_ok k a al h
theorem addA_nodup {al : List α} (h : al.Nodup) (a : α) : (addA al a).Nodup := by
  unfold addA
  split
  · exact h
  · rename_i hn
    rw [List.nodup_append]
    exact ⟨h, by simp, fun x hx y hy => by
      rw [List.mem_singleton] at hy
      rintro rfl
      exact hn (hy ▸ hx)⟩
theorem addA_len (al : List α) (a : α) : (addA al a).length ≤ al.length + 1 := by
  unfold addA
  split
  · omega
  · simp
theorem addA_mem {al : List α} {a x : α} (h : x ∈ addA al a) : x ∈ al ∨ x = a := by
  unfold addA at h
  split at h
  · exact .inl h
  · rcases List.mem_append.mp h with h | h
    · exact .inl h
    · exact .inr (List.mem_singleton.mp h)
end
section
variable {α : Type} [DecidableEq α] {t v : α → D} {u : α → NestedKey} {P : Program} {w : World} {ρ : DEnv} {i : Nat} {mk mv : ME}
theorem ev_dset (k : Ky t u) {a : α} {al : List α} (hi : ρ[i]? = some (.od P w (al.map fun b => (t b, v b)))) (hk : mk ρ = some (t a)) (hv : mv ρ = some (v a)) (hl : al.length < big) :
    mDSet P w i mk mv ρ = some (.nx (ρ.set i (.od P w ((addA al a).map fun b => (t b, v b))))) := by
  unfold mDSet
  rw [hv, hk]
  simp only [Option.bind_some]
  rw [odOf_at hi, Option.bind_some, key_ok k, Option.bind_some, if_pos (by rw [List.length_map]; exact hl), put_ok k]
theorem ev_dget (k : Ky t u) {a : α} {al : List α} (hi : ρ[i]? = some (.od P w (al.map fun b => (t b, v b)))) (hk : mk ρ = some (t a)) (hm : a ∈ al) : mDGet P w i mk ρ = some (v a) := by
  unfold mDGet
  rw [odOf_at hi, Option.bind_some, hk, Option.bind_some, key_ok k, Option.bind_some, get_ok k a al hm]
theorem ev_dkeys {al : List α} (hi : ρ[i]? = some (.od P w (al.map fun b => (t b, v b)))) : mDKeys P w i ρ = some (.lst (al.map t)) := by
  unfold mDKeys
  rw [odOf_at hi, Option.map_some, List.map_map]
  rfl
end
end KN

set_option Elab.async false
set_option linter.all false
set_option maxRecDepth 100000
set_option maxHeartbeats 4000000
namespace KN
open PySem PySem.Spec PyProof.Rows L2 Evl DD PySem.W
/-! N16: kinds and rows as keys -/
theorem nks_ints : ∀ ns : List Int, nks (ns.map D.int) = some (ns.map NestedKey.num)
  | [] => rfl
  | n :: ns => by
    show (nk (.int n)).bind (fun k => (nks (ns.map D.int)).map (k :: ·)) = _
    rw [nks_ints ns]
    rfl
theorem nk_tupI (ns : List Int) : nk (tupI ns) = some (.tup (ns.map .num)) := by
  show (nks (ns.map D.int)).map NestedKey.tup = _
  rw [nks_ints]
  rfl
theorem num_inj : ∀ {a b : List Int}, a.map NestedKey.num = b.map NestedKey.num → a = b := fun {a b} h => by
  have := congrArg (List.map fun k => match k with | NestedKey.num i => i | _ => 0) h
  simpa [List.map_map, Function.comp_def] using this
theorem depth_nums : ∀ ns : List Int, NestedKey.depthAll (ns.map .num) = 0
  | [] => rfl
  | n :: ns => by
    show max 0 (NestedKey.depthAll (ns.map .num)) = 0
    rw [depth_nums ns]
    rfl
theorem eqv_ints : ∀ a b : List Int, PyData.eqvAll (a.map PyData.int) (b.map PyData.int) = decide (a = b)
  | [], [] => rfl
  | [], _ :: _ => rfl
  | _ :: _, [] => rfl
  | x :: a, y :: b => by
    have ih := eqv_ints a b
    show (PyData.eqv (.int x) (.int y) && PyData.eqvAll (a.map PyData.int) (b.map PyData.int)) = _
    rw [ih]
    show ((x == y) && decide (a = b)) = _
    rw [Bool.eq_iff_iff]
    simp
def kindN (k : Kind) : NestedKey := .tup [.text k.1, .tup (k.2.1.map .num), .tup (k.2.2.map .num)]
theorem nk_kind (k : Kind) : nk (kindD k) = some (kindN k) := by
  show ((nk (.str k.1)).bind fun p => (((nk (tupI k.2.1)).bind fun q => (((nk (tupI k.2.2)).bind fun r => some [r]).map (q :: ·))).map (p :: ·))).map NestedKey.tup = _
  rw [nk_tupI, nk_tupI]
  rfl
theorem kindN_inj (a b : Kind) (h : kindN a = kindN b) : a = b := by
  obtain ⟨a1, a2, a3⟩ := a
  obtain ⟨b1, b2, b3⟩ := b
  simp only [kindN, NestedKey.tup.injEq, List.cons.injEq, NestedKey.text.injEq, and_true] at h
  obtain ⟨h1, h2, h3⟩ := h
  rw [h1, num_inj h2, num_inj h3]
theorem kindN_depth (a : Kind) : (kindN a).depth = 2 := by
  unfold kindN
  simp [NestedKey.depth, NestedKey.depthAll, depth_nums]
theorem ky_kind : Ky kindD kindN := ⟨nk_kind, kindN_inj, fun a => by rw [kindN_depth]; decide, fun a => ⟨_, rfl⟩⟩
theorem kindP_inj (a b : Kind) (h : PyData.eqv (kindP a) (kindP b) = true) : a = b := by
  obtain ⟨a1, a2, a3⟩ := a
  obtain ⟨b1, b2, b3⟩ := b
  simp only [kindP, PyData.eqv, PyData.eqvAll, eqv_ints, Bool.and_true, Bool.and_eq_true, decide_eq_true_eq, beq_iff_eq] at h
  obtain ⟨h1, h2, h3⟩ := h
  rw [h1, h2, h3]
/-! ### rows -/
abbrev Wt := Option (List Int × List Int)
abbrev Row := Kind × Wt × Wt
def wtD : Wt → D
  | none => .val .non
  | some w => .tup [tupI w.1, tupI w.2]
def wtE : Wt → D
  | none => .tup []
  | some w => .tup [tupI w.1, tupI w.2]
def wtN : Wt → NestedKey
  | none => .tup []
  | some w => .tup [.tup (w.1.map .num), .tup (w.2.map .num)]
def wtP : Wt → PyData
  | none => .tuple []
  | some w => .tuple [.tuple (w.1.map .int), .tuple (w.2.map .int)]
def rowD (r : Row) : D := .tup [kindD r.1, wtD r.2.1, wtD r.2.2]
def rowE (r : Row) : D := .tup [kindD r.1, .val (.bl r.2.1.isSome), wtE r.2.1, .val (.bl r.2.2.isSome), wtE r.2.2]
def b01 (b : Bool) : Int := if b = true then 1 else 0
def rowN (r : Row) : NestedKey := .tup [kindN r.1, .num (b01 r.2.1.isSome), wtN r.2.1, .num (b01 r.2.2.isSome), wtN r.2.2]
def rowP (r : Row) : PyData := .tuple [kindP r.1, .bool r.2.1.isSome, wtP r.2.1, .bool r.2.2.isSome, wtP r.2.2]
theorem nk_wt (w : Wt) : nk (wtE w) = some (wtN w) := by
  cases w with
  | none => rfl
  | some w =>
    show (((nk (tupI w.1)).bind fun q => (((nk (tupI w.2)).bind fun r => some [r]).map (q :: ·)))).map NestedKey.tup = _
    rw [nk_tupI, nk_tupI]
    rfl
theorem nk_row (r : Row) : nk (rowE r) = some (rowN r) := by
  show ((nk (kindD r.1)).bind fun a => (((nk (.bl r.2.1.isSome)).bind fun b => (((nk (wtE r.2.1)).bind fun c => (((nk (.bl r.2.2.isSome)).bind fun d => (((nk (wtE r.2.2)).bind fun e => some [e]).map (d :: ·))).map (c :: ·))).map (b :: ·))).map (a :: ·))).map NestedKey.tup = _
  rw [nk_kind, nk_wt, nk_wt]
  rfl
theorem wtN_inj {a b : Wt} (h : wtN a = wtN b) : a = b := by
  cases a with
  | none =>
    cases b with
    | none => rfl
    | some b => simp [wtN] at h
  | some a =>
    cases b with
    | none => simp [wtN] at h
    | some b =>
      obtain ⟨a1, a2⟩ := a
      obtain ⟨b1, b2⟩ := b
      simp only [wtN, NestedKey.tup.injEq, List.cons.injEq, and_true] at h
      rw [num_inj h.1, num_inj h.2]
theorem rowN_inj (a b : Row) (h : rowN a = rowN b) : a = b := by
  obtain ⟨a1, a2, a3⟩ := a
  obtain ⟨b1, b2, b3⟩ := b
  simp only [rowN, NestedKey.tup.injEq, List.cons.injEq, and_true] at h
  obtain ⟨h1, _, h2, _, h3⟩ := h
  rw [kindN_inj _ _ h1, wtN_inj h2, wtN_inj h3]
theorem wtN_depth (a : Wt) : (wtN a).depth ≤ 2 := by
  cases a <;> simp [wtN, NestedKey.depth, NestedKey.depthAll, depth_nums]
theorem rowN_depth (a : Row) : (rowN a).depth ≤ 8 := by
  have h1 := wtN_depth a.2.1
  have h2 := wtN_depth a.2.2
  have h3 := kindN_depth a.1
  unfold rowN
  simp only [NestedKey.depth, NestedKey.depthAll]
  omega
theorem ky_row : Ky rowE rowN := ⟨nk_row, rowN_inj, rowN_depth, fun a => ⟨_, rfl⟩⟩
theorem pd_wt (w : Wt) : pd (wtE w) = some (wtP w) := by
  cases w with
  | none => rfl
  | some w =>
    show (((pd (tupI w.1)).bind fun q => (((pd (tupI w.2)).bind fun r => some [r]).map (q :: ·)))).map PyData.tuple = _
    rw [pd_tupI, pd_tupI]
    rfl
theorem pd_row (r : Row) : pd (rowE r) = some (rowP r) := by
  show ((pd (kindD r.1)).bind fun a => (((pd (.bl r.2.1.isSome)).bind fun b => (((pd (wtE r.2.1)).bind fun c => (((pd (.bl r.2.2.isSome)).bind fun d => (((pd (wtE r.2.2)).bind fun e => some [e]).map (d :: ·))).map (c :: ·))).map (b :: ·))).map (a :: ·))).map PyData.tuple = _
  rw [pd_kind, pd_wt, pd_wt]
  rfl
theorem alike_wt (a b : Wt) : alike (wtP a) (wtP b) = true := by
  cases a <;> cases b <;> simp [wtP, alike, alikeAll, alike_ints]
theorem alike_row (a b : Row) : alike (rowP a) (rowP b) = true := by
  unfold rowP
  simp [alike, alikeAll, alike_kind, alike_wt]
theorem wtP_inj {a b : Wt} (h : PyData.eqv (wtP a) (wtP b) = true) : a = b := by
  cases a with
  | none =>
    cases b with
    | none => rfl
    | some b => simp [wtP, PyData.eqv, PyData.eqvAll] at h
  | some a =>
    cases b with
    | none => simp [wtP, PyData.eqv, PyData.eqvAll] at h
    | some b =>
      obtain ⟨a1, a2⟩ := a
      obtain ⟨b1, b2⟩ := b
      simp only [wtP, PyData.eqv, PyData.eqvAll, eqv_ints, Bool.and_true, Bool.and_eq_true, decide_eq_true_eq] at h
      rw [h.1, h.2]
theorem rowP_inj (a b : Row) (h : PyData.eqv (rowP a) (rowP b) = true) : a = b := by
  obtain ⟨a1, a2, a3⟩ := a
  obtain ⟨b1, b2, b3⟩ := b
  unfold rowP at h
  rw [PyData.eqv, PyData.eqvAll, PyData.eqvAll, PyData.eqvAll, PyData.eqvAll, PyData.eqvAll, PyData.eqvAll] at h
  simp only [Bool.and_true, Bool.and_eq_true] at h
  obtain ⟨h1, _, h2, _, h3⟩ := h
  rw [kindP_inj _ _ h1, wtP_inj h2, wtP_inj h3]
theorem depth_wt (a : Wt) : (wtP a).depth ≤ 2 := by
  cases a <;> simp [wtP, PyData.depth, PyData.depthAll, depth_ints]
theorem depth_row (a : Row) : (rowP a).depth ≤ 180 := by
  have h1 := depth_wt a.2.1
  have h2 := depth_wt a.2.2
  have h3 := depth_kind a.1
  unfold rowP
  simp only [PyData.depth, PyData.depthAll]
  omega
theorem ltC_row (a b : Row) : ltC (rowP a) (rowP b) = true := by
  have h1 := depth_row a
  unfold ltC fitP
  rw [alike_row, decide_eq_true (by omega)]
  rfl
theorem keys_rows (rs : List Row) : Keys (rs.map rowE) (rs.map rowP) := keys_of pd_row ltC_row rs
theorem ix0t {a : D} {r : List D} : ixD (.tup (a :: r)) (.val (.int 0)) = some a := atI_zero a r
theorem ix1t {a b : D} {r : List D} : ixD (.tup (a :: b :: r)) (.val (.int 1)) = some b := by
  show atI (a :: b :: r) 1 = _
  unfold atI ixN
  rw [if_pos (by decide), if_pos (by simp only [List.length_cons]; omega)]
  rfl
theorem ix2t {a b c : D} {r : List D} : ixD (.tup (a :: b :: c :: r)) (.val (.int 2)) = some c := by
  show atI (a :: b :: c :: r) 2 = _
  unfold atI ixN
  rw [if_pos (by decide), if_pos (by simp only [List.length_cons]; omega)]
  rfl
theorem F_rowKey_ok (r : Row) : F__law_row_key [rowD r] = some (rowE r) := by
  refine F_of rfl ?_
  show m__law_row_key [.pu (rowD r)] = _
  unfold m__law_row_key rowD rowE
  obtain ⟨k, a, b⟩ := r
  cases a <;> cases b <;> simp [ix0t, ix1t, ix2t, wtD, wtE]
end KN

set_option Elab.async false
set_option linter.all false
set_option maxRecDepth 100000
set_option maxHeartbeats 4000000
namespace KN
open PySem PySem.Spec PyProof.Rows L2 Evl DD PySem.W
/-! N17: _law_some_rows -/
def WtOk (w : Wt) : Prop := ∀ p, w = some p → Atoms p.1 ∧ Atoms p.2
structure KindOk (k : Kind) : Prop where
  l : isLab k.1 = true
  n : Atoms k.2.1
  b : Atoms k.2.2
structure RowOk (r : Row) : Prop where
  k : KindOk r.1
  f : WtOk r.2.1
  s : WtOk r.2.2
noncomputable abbrev mRowB (P : Program) (w : World) : MS := (mSeq (mAsg 6 (mSl slD (mVar 2) (mPart (mOp addD (mC (.int 1)) (mOp mulD (mC (.int 8)) (mVar 5)))) (mPart (mOp addD (mC (.int 9)) (mOp mulD (mC (.int 8)) (mVar 5)))))) (mSeq (mAsg 7 (mTup (mCons (mOp ixD (mVar 3) (mOp modD (mOp ixD (mVar 6) (mC (.int 0))) (mC (.int 3)))) (mCons (mCall F__law_some_atoms (mCons (mOp ixD (mVar 6) (mC (.int 1))) (mCons (mC (.int 5)) mNil))) (mCons (mCall F__law_some_atoms (mCons (mOp ixD (mVar 6) (mC (.int 2))) (mCons (mC (.int 6)) mNil))) mNil))))) (mSeq (mPar 8 9 (mCons (mTup (mCons (mCall F__law_some_atoms (mCons (mOp ixD (mVar 6) (mC (.int 3))) (mCons (mC (.int 4)) mNil))) (mCons (mCall F__law_some_atoms (mCons (mOp ixD (mVar 6) (mC (.int 4))) (mCons (mC (.int 5)) mNil))) mNil))) (mCons (mTup (mCons (mCall F__law_some_atoms (mCons (mOp ixD (mVar 6) (mC (.int 5))) (mCons (mC (.int 5)) mNil))) (mCons (mCall F__law_some_atoms (mCons (mOp ixD (mVar 6) (mC (.int 6))) (mCons (mC (.int 3)) mNil))) mNil))) mNil))) (mSeq (mAsg 10 (mOp ixD (mLst (few (mCons (mTup (mCons (mVar 7) (mCons (mVar 8) (mCons (mVar 9) mNil)))) (mCons (mTup (mCons (mVar 7) (mCons (mC .non) (mCons (mC .non) mNil)))) (mCons (mTup (mCons (mVar 7) (mCons (mVar 8) (mCons (mC .non) mNil)))) (mCons (mTup (mCons (mVar 7) (mCons (mC .non) (mCons (mVar 9) mNil)))) mNil)))))) (mOp modD (mOp ixD (mVar 6) (mC (.int 7))) (mC (.int 4))))) (mDSet P w 4 (mCall F__law_row_key (mCons (mVar 10) mNil)) (mVar 10))))))
theorem atoms_at {ρ : DEnv} {own : List Int} (hl : own.length = 8) (ho : ∀ n ∈ own, Low n) (h6 : mVar 6 ρ = some (.lst (own.map D.int))) {i m : Int} (hi : 0 ≤ i ∧ i < 8) (hm : 0 ≤ m ∧ m ≤ 7) : ∃ ns, mCall F__law_some_atoms (mCons (mOp ixD (mVar 6) (mC (.int i))) (mCons (mC (.int m)) mNil)) ρ = some (tupI ns) ∧ Atoms ns := by
  obtain ⟨a, ea, _⟩ := num_ix' hl ho hi.1 (by omega)
  obtain ⟨ns, e, h⟩ := F_someAtoms_ok a (m := m.toNat) (by omega)
  rw [show ((m.toNat : Nat) : Int) = m by omega] at e
  exact ⟨ns, (ev_call (ev_cons ((ev_op h6 rfl).trans ea) (ev_cons rfl rfl))).trans e, h⟩
theorem str_ix {zs : List Str} {i : Int} (h0 : 0 ≤ i) (h1 : i < zs.length) : ∃ z, z ∈ zs ∧ ixD (.lst (zs.map D.str)) (.int i) = some (.str z) := by
  obtain ⟨x, hx, e⟩ := at_mem (xs := zs.map D.str) h0 (by rw [List.length_map]; exact h1)
  obtain ⟨z, hz, rfl⟩ := List.mem_map.mp hx
  exact ⟨z, hz, e⟩
theorem ev_tup {m : MA} {ρ : DEnv} {ds : List D} (h : m ρ = some ds) (hl : ds.length ≤ 16777216) : mTup m ρ = some (.tup ds) := by
  rw [e_tup, e_few, h, Option.bind_some, if_pos hl]
  rfl
theorem ev_tup2 {a b : ME} {ρ : DEnv} {x y : D} (h1 : a ρ = some x) (h2 : b ρ = some y) : mTup (mCons a (mCons b mNil)) ρ = some (.tup [x, y]) := ev_tup (ev_cons h1 (ev_cons h2 rfl)) (by simp)
theorem ev_tup3 {a b c : ME} {ρ : DEnv} {x y z : D} (h1 : a ρ = some x) (h2 : b ρ = some y) (h3 : c ρ = some z) : mTup (mCons a (mCons b (mCons c mNil))) ρ = some (.tup [x, y, z]) := ev_tup (ev_cons h1 (ev_cons h2 (ev_cons h3 rfl))) (by simp)
section
variable {P : Program} {w : World} {x0 x1 x6 x7 x8 x9 x10 x11 : DE} {ns : List Int} {zs : List Str} {al : List Row} {k : Nat}
theorem rowB_ok (hl : ns.length = 60) (ho : ∀ n ∈ ns, Low n) (hz : zs.length = 3) (hzl : ∀ z ∈ zs, isLab z = true) (hk : k < 7) (ha : al.length ≤ 100) :
    ∃ (r : Row) (y6 y7 y8 y9 y10 : DE), RowOk r ∧ mRowB P w [x0, x1, .pu (.lst (ns.map D.int)), .pu (.lst (zs.map D.str)), .od P w (al.map fun b => (rowE b, rowD b)), .pu (.int (k : Int)), x6, x7, x8, x9, x10, x11] =
      some (.nx [x0, x1, .pu (.lst (ns.map D.int)), .pu (.lst (zs.map D.str)), .od P w ((addA al r).map fun b => (rowE b, rowD b)), .pu (.int (k : Int)), y6, y7, y8, y9, y10, x11]) := by
  generalize hown : (ns.drop (1 + 8 * k)).take 8 = own
  have lown : own.length = 8 := by
    rw [← hown, List.length_take, List.length_drop, hl]
    omega
  have oown : ∀ n ∈ own, Low n := fun n h => ho n (List.mem_of_mem_drop (List.mem_of_mem_take (by rw [hown]; exact h)))
  -- own
  have s6 : mSl slD (mVar 2) (mPart (mOp addD (mC (.int 1)) (mOp mulD (mC (.int 8)) (mVar 5)))) (mPart (mOp addD (mC (.int 9)) (mOp mulD (mC (.int 8)) (mVar 5)))) [x0, x1, .pu (.lst (ns.map D.int)), .pu (.lst (zs.map D.str)), .od P w (al.map fun b => (rowE b, rowD b)), .pu (.int (k : Int)), x6, x7, x8, x9, x10, x11] = some (.lst (own.map D.int)) := by
    generalize hρ : [x0, x1, DE.pu (.lst (ns.map D.int)), .pu (.lst (zs.map D.str)), .od P w (al.map fun b => (rowE b, rowD b)), .pu (.int (k : Int)), x6, x7, x8, x9, x10, x11] = ρ
    have v5 : In (mVar 5) ρ (k : Int) := by rw [← hρ]; rfl
    have v2 : mVar 2 ρ = some (.lst (ns.map D.int)) := by rw [← hρ]; rfl
    have e1 : In (mOp addD (mC (.int 1)) (mOp mulD (mC (.int 8)) (mVar 5))) ρ (1 + 8 * (k : Int)) := in_add rfl (in_mul rfl v5 (.inl (by decide)))
    have e9 : In (mOp addD (mC (.int 9)) (mOp mulD (mC (.int 8)) (mVar 5))) ρ (9 + 8 * (k : Int)) := in_add rfl (in_mul rfl v5 (.inl (by decide)))
    have p1 : mPart (mOp addD (mC (.int 1)) (mOp mulD (mC (.int 8)) (mVar 5))) ρ = some (some (((1 + 8 * k : Nat)) : Int)) := by
      rw [e_part, e1, show (((1 + 8 * k : Nat)) : Int) = 1 + 8 * (k : Int) by omega]
      rfl
    have p9 : mPart (mOp addD (mC (.int 9)) (mOp mulD (mC (.int 8)) (mVar 5))) ρ = some (some (((9 + 8 * k : Nat)) : Int)) := by
      rw [e_part, e9, show (((9 + 8 * k : Nat)) : Int) = 9 + 8 * (k : Int) by omega]
      rfl
    rw [ev_sl v2 p1 p9, sl_mid (by omega) (by rw [List.length_map, hl]; omega), ← hown, ← List.map_drop, ← List.map_take, show 9 + 8 * k - (1 + 8 * k) = 8 by omega]
  -- the kind
  have s7 : ∃ kd : Kind, KindOk kd ∧ mTup (mCons (mOp ixD (mVar 3) (mOp modD (mOp ixD (mVar 6) (mC (.int 0))) (mC (.int 3)))) (mCons (mCall F__law_some_atoms (mCons (mOp ixD (mVar 6) (mC (.int 1))) (mCons (mC (.int 5)) mNil))) (mCons (mCall F__law_some_atoms (mCons (mOp ixD (mVar 6) (mC (.int 2))) (mCons (mC (.int 6)) mNil))) mNil))) [x0, x1, .pu (.lst (ns.map D.int)), .pu (.lst (zs.map D.str)), .od P w (al.map fun b => (rowE b, rowD b)), .pu (.int (k : Int)), .pu (.lst (own.map D.int)), x7, x8, x9, x10, x11] = some (kindD kd) := by
    generalize hρ : [x0, x1, DE.pu (.lst (ns.map D.int)), .pu (.lst (zs.map D.str)), .od P w (al.map fun b => (rowE b, rowD b)), .pu (.int (k : Int)), .pu (.lst (own.map D.int)), x7, x8, x9, x10, x11] = ρ
    have v3 : mVar 3 ρ = some (.lst (zs.map D.str)) := by rw [← hρ]; rfl
    have v6 : mVar 6 ρ = some (.lst (own.map D.int)) := by rw [← hρ]; rfl
    obtain ⟨a, ea, _⟩ := num_ix' lown oown (i := 0) (by decide) (by decide)
    have e0 : In (mOp modD (mOp ixD (mVar 6) (mC (.int 0))) (mC (.int 3))) ρ (a % 3) := in_mod ((ev_op v6 rfl).trans ea) rfl (by decide)
    obtain ⟨z, hzm, ez⟩ := str_ix (zs := zs) (Int.emod_nonneg a (b := 3) (by decide)) (by have := Int.emod_lt_of_pos a (b := 3) (by decide); omega)
    obtain ⟨n1, e1, h1⟩ := atoms_at lown oown v6 (i := 1) (m := 5) (by decide) (by decide)
    obtain ⟨n2, e2, h2⟩ := atoms_at lown oown v6 (i := 2) (m := 6) (by decide) (by decide)
    exact ⟨(z, n1, n2), ⟨hzl z hzm, h1, h2⟩, ev_tup3 ((ev_op v3 e0).trans ez) e1 e2⟩
  obtain ⟨kd, hkd, s7⟩ := s7
  have s8 : ∃ (f g : List Int × List Int), (Atoms f.1 ∧ Atoms f.2) ∧ (Atoms g.1 ∧ Atoms g.2) ∧ mPar 8 9 (mCons (mTup (mCons (mCall F__law_some_atoms (mCons (mOp ixD (mVar 6) (mC (.int 3))) (mCons (mC (.int 4)) mNil))) (mCons (mCall F__law_some_atoms (mCons (mOp ixD (mVar 6) (mC (.int 4))) (mCons (mC (.int 5)) mNil))) mNil))) (mCons (mTup (mCons (mCall F__law_some_atoms (mCons (mOp ixD (mVar 6) (mC (.int 5))) (mCons (mC (.int 5)) mNil))) (mCons (mCall F__law_some_atoms (mCons (mOp ixD (mVar 6) (mC (.int 6))) (mCons (mC (.int 3)) mNil))) mNil))) mNil)) [x0, x1, .pu (.lst (ns.map D.int)), .pu (.lst (zs.map D.str)), .od P w (al.map fun b => (rowE b, rowD b)), .pu (.int (k : Int)), .pu (.lst (own.map D.int)), .pu (kindD kd), x8, x9, x10, x11] = some (.nx [x0, x1, .pu (.lst (ns.map D.int)), .pu (.lst (zs.map D.str)), .od P w (al.map fun b => (rowE b, rowD b)), .pu (.int (k : Int)), .pu (.lst (own.map D.int)), .pu (kindD kd), .pu (wtD (some f)), .pu (wtD (some g)), x10, x11]) := by
    generalize hρ : [x0, x1, DE.pu (.lst (ns.map D.int)), .pu (.lst (zs.map D.str)), .od P w (al.map fun b => (rowE b, rowD b)), .pu (.int (k : Int)), .pu (.lst (own.map D.int)), .pu (kindD kd), x8, x9, x10, x11] = ρ
    have v6 : mVar 6 ρ = some (.lst (own.map D.int)) := by rw [← hρ]; rfl
    obtain ⟨n3, e3, h3⟩ := atoms_at lown oown v6 (i := 3) (m := 4) (by decide) (by decide)
    obtain ⟨n4, e4, h4⟩ := atoms_at lown oown v6 (i := 4) (m := 5) (by decide) (by decide)
    obtain ⟨n5, e5, h5⟩ := atoms_at lown oown v6 (i := 5) (m := 5) (by decide) (by decide)
    obtain ⟨n6, e6, h6⟩ := atoms_at lown oown v6 (i := 6) (m := 3) (by decide) (by decide)
    refine ⟨(n3, n4), (n5, n6), ⟨h3, h4⟩, ⟨h5, h6⟩, ?_⟩
    rw [e_par, ev_cons (ev_tup2 e3 e4) (ev_cons (ev_tup2 e5 e6) rfl), ← hρ]
    rfl
  obtain ⟨f, g, hf, hg, s8⟩ := s8
  have s10 : ∃ r : Row, RowOk r ∧ mOp ixD (mLst (few (mCons (mTup (mCons (mVar 7) (mCons (mVar 8) (mCons (mVar 9) mNil)))) (mCons (mTup (mCons (mVar 7) (mCons (mC .non) (mCons (mC .non) mNil)))) (mCons (mTup (mCons (mVar 7) (mCons (mVar 8) (mCons (mC .non) mNil)))) (mCons (mTup (mCons (mVar 7) (mCons (mC .non) (mCons (mVar 9) mNil)))) mNil)))))) (mOp modD (mOp ixD (mVar 6) (mC (.int 7))) (mC (.int 4))) [x0, x1, .pu (.lst (ns.map D.int)), .pu (.lst (zs.map D.str)), .od P w (al.map fun b => (rowE b, rowD b)), .pu (.int (k : Int)), .pu (.lst (own.map D.int)), .pu (kindD kd), .pu (wtD (some f)), .pu (wtD (some g)), x10, x11] = some (rowD r) := by
    generalize hρ : [x0, x1, DE.pu (.lst (ns.map D.int)), .pu (.lst (zs.map D.str)), .od P w (al.map fun b => (rowE b, rowD b)), .pu (.int (k : Int)), .pu (.lst (own.map D.int)), .pu (kindD kd), .pu (wtD (some f)), .pu (wtD (some g)), x10, x11] = ρ
    have v6 : mVar 6 ρ = some (.lst (own.map D.int)) := by rw [← hρ]; rfl
    have v7 : mVar 7 ρ = some (kindD kd) := by rw [← hρ]; rfl
    have v8 : mVar 8 ρ = some (wtD (some f)) := by rw [← hρ]; rfl
    have v9 : mVar 9 ρ = some (wtD (some g)) := by rw [← hρ]; rfl
    have vn : mC .non ρ = some (wtD none) := rfl
    have wf : WtOk (some f) := fun p e => by cases e; exact hf
    have wg : WtOk (some g) := fun p e => by cases e; exact hg
    have wn : WtOk none := fun p e => by cases e
    obtain ⟨a, ea, _⟩ := num_ix' lown oown (i := 7) (by decide) (by decide)
    have e7 : In (mOp modD (mOp ixD (mVar 6) (mC (.int 7))) (mC (.int 4))) ρ (a % 4) := in_mod ((ev_op v6 rfl).trans ea) rfl (by decide)
    have t1 : mTup (mCons (mVar 7) (mCons (mVar 8) (mCons (mVar 9) mNil))) ρ = some (rowD (kd, some f, some g)) := ev_tup3 v7 v8 v9
    have t2 : mTup (mCons (mVar 7) (mCons (mC .non) (mCons (mC .non) mNil))) ρ = some (rowD (kd, none, none)) := ev_tup3 v7 vn vn
    have t3 : mTup (mCons (mVar 7) (mCons (mVar 8) (mCons (mC .non) mNil))) ρ = some (rowD (kd, some f, none)) := ev_tup3 v7 v8 vn
    have t4 : mTup (mCons (mVar 7) (mCons (mC .non) (mCons (mVar 9) mNil))) ρ = some (rowD (kd, none, some g)) := ev_tup3 v7 vn v9
    have tl4 : mLst (few (mCons (mTup (mCons (mVar 7) (mCons (mVar 8) (mCons (mVar 9) mNil)))) (mCons (mTup (mCons (mVar 7) (mCons (mC .non) (mCons (mC .non) mNil)))) (mCons (mTup (mCons (mVar 7) (mCons (mVar 8) (mCons (mC .non) mNil)))) (mCons (mTup (mCons (mVar 7) (mCons (mC .non) (mCons (mVar 9) mNil)))) mNil))))) ρ = some (.lst [rowD (kd, some f, some g), rowD (kd, none, none), rowD (kd, some f, none), rowD (kd, none, some g)]) := by
      refine ev_lst ?_
      rw [e_few, ev_cons t1 (ev_cons t2 (ev_cons t3 (ev_cons t4 rfl))), Option.bind_some]
      exact if_pos (by simp)
    obtain ⟨y, hy, ey⟩ := at_mem (xs := [rowD (kd, some f, some g), rowD (kd, none, none), rowD (kd, some f, none), rowD (kd, none, some g)]) (Int.emod_nonneg a (b := 4) (by decide)) (Int.emod_lt_of_pos a (b := 4) (by decide))
    have ee : mOp ixD (mLst (few (mCons (mTup (mCons (mVar 7) (mCons (mVar 8) (mCons (mVar 9) mNil)))) (mCons (mTup (mCons (mVar 7) (mCons (mC .non) (mCons (mC .non) mNil)))) (mCons (mTup (mCons (mVar 7) (mCons (mVar 8) (mCons (mC .non) mNil)))) (mCons (mTup (mCons (mVar 7) (mCons (mC .non) (mCons (mVar 9) mNil)))) mNil)))))) (mOp modD (mOp ixD (mVar 6) (mC (.int 7))) (mC (.int 4))) ρ = some y := (ev_op tl4 e7).trans ey
    simp only [List.mem_cons, List.not_mem_nil, or_false] at hy
    rcases hy with rfl | rfl | rfl | rfl
    · exact ⟨_, ⟨hkd, wf, wg⟩, ee⟩
    · exact ⟨_, ⟨hkd, wn, wn⟩, ee⟩
    · exact ⟨_, ⟨hkd, wf, wn⟩, ee⟩
    · exact ⟨_, ⟨hkd, wn, wg⟩, ee⟩
  obtain ⟨r, hr, s10⟩ := s10
  refine ⟨r, .pu (.lst (own.map D.int)), .pu (kindD kd), .pu (wtD (some f)), .pu (wtD (some g)), .pu (rowD r), hr, ?_⟩
  have s11 := ev_dset (P := P) (w := w) (i := 4) (mk := mCall F__law_row_key (mCons (mVar 10) mNil)) (mv := mVar 10) (v := rowD) ky_row (a := r) (al := al) (ρ := [x0, x1, .pu (.lst (ns.map D.int)), .pu (.lst (zs.map D.str)), .od P w (al.map fun b => (rowE b, rowD b)), .pu (.int (k : Int)), .pu (.lst (own.map D.int)), .pu (kindD kd), .pu (wtD (some f)), .pu (wtD (some g)), .pu (rowD r), x11]) rfl ((ev_call (ev_cons rfl rfl)).trans (F_rowKey_ok r)) rfl (by rw [big_eq]; omega)
  refine (ev_seq (ev_asg' s6 rfl)).trans ((ev_seq (ev_asg' s7 rfl)).trans ((ev_seq s8).trans ((ev_seq (ev_asg' s10 rfl)).trans ?_)))
  exact s11
end
end KN

set_option Elab.async false
set_option linter.all false
set_option maxRecDepth 100000
set_option maxHeartbeats 4000000
namespace KN
open PySem PySem.Spec PyProof.Rows L2 Evl DD PySem.W
/-! N18: _law_some_rows, the end -/
section
variable {P : Program} {w : World} {x0 x1 x11 : DE} {ns : List Int} {zs : List Str}
theorem for_rows (hl : ns.length = 60) (ho : ∀ n ∈ ns, Low n) (hz : zs.length = 3) (hzl : ∀ z ∈ zs, isLab z = true) : ∀ (ks : List Nat) (al : List Row) (x5 x6 x7 x8 x9 x10 : DE), (∀ k ∈ ks, k < 7) → al.length + ks.length ≤ 50 → al.Nodup → (∀ r ∈ al, RowOk r) →
    ∃ (out : List Row) (y5 y6 y7 y8 y9 y10 : DE), forL (gN 5) (mRowB P w) (ks.map fun (k : Nat) => D.int (k : Int)) [x0, x1, .pu (.lst (ns.map D.int)), .pu (.lst (zs.map D.str)), .od P w (al.map fun b => (rowE b, rowD b)), x5, x6, x7, x8, x9, x10, x11] =
      some (.nx [x0, x1, .pu (.lst (ns.map D.int)), .pu (.lst (zs.map D.str)), .od P w (out.map fun b => (rowE b, rowD b)), y5, y6, y7, y8, y9, y10, x11]) ∧ out.Nodup ∧ (∀ r ∈ out, RowOk r) ∧ out.length ≤ al.length + ks.length
  | [], al, x5, x6, x7, x8, x9, x10, _, _, hn, hr => ⟨al, x5, x6, x7, x8, x9, x10, rfl, hn, hr, by simp⟩
  | k :: ks, al, x5, x6, x7, x8, x9, x10, hk, hz2, hn, hr => by
    rw [List.length_cons] at hz2
    obtain ⟨r, y6, y7, y8, y9, y10, hro, e1⟩ := rowB_ok (P := P) (w := w) (x0 := x0) (x1 := x1) (x6 := x6) (x7 := x7) (x8 := x8) (x9 := x9) (x10 := x10) (x11 := x11) hl ho hz hzl (hk k List.mem_cons_self) (al := al) (by omega)
    have la := addA_len al r
    obtain ⟨out, w5, w6, w7, w8, w9, w10, e2, n2, r2, l2⟩ := for_rows hl ho hz hzl ks (addA al r) (.pu (.int (k : Int))) y6 y7 y8 y9 y10 (fun j hj => hk j (List.mem_cons_of_mem _ hj)) (by omega) (addA_nodup hn r) (fun x hx => by
      rcases addA_mem hx with h | h
      · exact hr x h
      · rw [h]; exact hro)
    refine ⟨out, w5, w6, w7, w8, w9, w10, ?_, n2, r2, by rw [List.length_cons]; omega⟩
    rw [List.map_cons, for_cons_nx rfl e1]
    exact e2
end
theorem range_nat (n : Nat) : rangeD 0 n = (List.range n).map fun (k : Nat) => D.int (k : Int) := by
  rw [range_ints, List.map_map]
  rfl
theorem F_someRows_ok {P : Program} {w : World} (s : List Int) {t : Nat} (ht : t ≤ 100) : ∃ rs : List Row, F__law_some_rows P w [.lst (s.map D.int), .int (t : Int)] = some (.lst (rs.map rowD)) ∧ rs.Nodup ∧ (∀ r ∈ rs, RowOk r) ∧ rs.length ≤ 6 ∧ (rs.map rowP).Pairwise (fun a b => dataLt a b = true) := by
  obtain ⟨ns, en, hl, ho⟩ := F_numbers_law s (t := t) (m := 60) (by decide) (by omega)
  obtain ⟨zs, ez, lz, oz⟩ := F_lawWords_ok s (t := t + 1) (by omega)
  obtain ⟨a, ea, _⟩ := num_ix' hl ho (i := 0) (by decide) (by decide)
  have a0 := Int.emod_nonneg a (b := 7) (by decide)
  have a1 := Int.emod_lt_of_pos a (b := 7) (by decide)
  obtain ⟨al, y5, y6, y7, y8, y9, y10, e, nd, ro, rl⟩ := for_rows (P := P) (w := w) (x0 := .pu (.lst (s.map D.int))) (x1 := .pu (.int t)) (x11 := .un) hl ho lz oz (List.range (a % 7).toNat) [] .un .un .un .un .un .un (fun k hk => by
    rw [List.mem_range] at hk
    omega) (by simp; omega) List.nodup_nil (by simp)
  rw [List.length_range] at rl
  have pm := sortA_perm rowP al
  refine ⟨sortA rowP al, F_of rfl ?_, pm.nodup_iff.mpr nd, fun r h => ro r (pm.mem_iff.mp h), by rw [pm.length_eq]; simp at rl; omega, sortA_rises rowP alike_row rowP_inj nd⟩
  show m__law_some_rows P w [.pu (.lst (s.map D.int)), .pu (.int t), .un, .un, .un, .un, .un, .un, .un, .un, .un, .un] = _
  unfold m__law_some_rows
  have s2 : mCall F__law_numbers (mCons (mVar 0) (mCons (mVar 1) (mCons (mC (.int 60)) mNil))) [.pu (.lst (s.map D.int)), .pu (.int t), .un, .un, .un, .un, .un, .un, .un, .un, .un, .un] = some (.lst (ns.map D.int)) := (ev_call (ev_cons rfl (ev_cons rfl (ev_cons rfl rfl)))).trans en
  have s3 : mCall F__law_words (mCons (mVar 0) (mCons (mOp addD (mVar 1) (mC (.int 1))) (mCons (mC (.int 3)) mNil))) [.pu (.lst (s.map D.int)), .pu (.int t), .pu (.lst (ns.map D.int)), .un, .un, .un, .un, .un, .un, .un, .un, .un] = some (.lst (zs.map D.str)) := by
    have e1 : mOp addD (mVar 1) (mC (.int 1)) [.pu (.lst (s.map D.int)), .pu (.int t), .pu (.lst (ns.map D.int)), .un, .un, .un, .un, .un, .un, .un, .un, .un] = some (.int ((t + 1 : Nat) : Int)) := rfl
    exact (ev_call (ev_cons rfl (ev_cons e1 (ev_cons rfl rfl)))).trans ez
  have s4 : mAsgD P w 4 [.pu (.lst (s.map D.int)), .pu (.int t), .pu (.lst (ns.map D.int)), .pu (.lst (zs.map D.str)), .un, .un, .un, .un, .un, .un, .un, .un] = some (.nx [.pu (.lst (s.map D.int)), .pu (.int t), .pu (.lst (ns.map D.int)), .pu (.lst (zs.map D.str)), .od P w [], .un, .un, .un, .un, .un, .un, .un]) := rfl
  have s5 : mFor (mRange1 (mCons (mOp modD (mOp ixD (mVar 2) (mC (.int 0))) (mC (.int 7))) mNil)) (gN 5) (mRowB P w) [.pu (.lst (s.map D.int)), .pu (.int t), .pu (.lst (ns.map D.int)), .pu (.lst (zs.map D.str)), .od P w [], .un, .un, .un, .un, .un, .un, .un] = some (.nx [.pu (.lst (s.map D.int)), .pu (.int t), .pu (.lst (ns.map D.int)), .pu (.lst (zs.map D.str)), .od P w (al.map fun b => (rowE b, rowD b)), y5, y6, y7, y8, y9, y10, .un]) := by
    have e1 : In (mOp modD (mOp ixD (mVar 2) (mC (.int 0))) (mC (.int 7))) [.pu (.lst (s.map D.int)), .pu (.int t), .pu (.lst (ns.map D.int)), .pu (.lst (zs.map D.str)), .od P w [], .un, .un, .un, .un, .un, .un, .un] (a % 7) := in_mod ((ev_op rfl rfl).trans ea) rfl (by decide)
    rw [ev_for (e_range1 (ev_cons e1 rfl) (by omega)), range_nat]
    exact e
  refine (ev_seq (ev_asg' s2 rfl)).trans ((ev_seq (ev_asg' s3 rfl)).trans ((ev_seq s4).trans ((ev_seq s5).trans ?_)))
  refine ev_ret (ev_lst ?_)
  have e1 : mItems (mCall sortND (mCons (mDKeys P w 4) mNil)) [.pu (.lst (s.map D.int)), .pu (.int t), .pu (.lst (ns.map D.int)), .pu (.lst (zs.map D.str)), .od P w (al.map fun b => (rowE b, rowD b)), y5, y6, y7, y8, y9, y10, .un] = some ((sortA rowP al).map rowE) := by
    rw [e_items, ev_call (ev_cons (ev_dkeys rfl) rfl), sortN_ok rowP pd_row (sortOk_tup rowP alike_row depth_row (fun _ => rfl) al)]
    rfl
  rw [ev_lc e1 (by rw [List.length_map, pm.length_eq]; simp at rl; omega)]
  show lcL (gN 11) mYes (mDGet P w 4 (mVar 11)) [.pu (.lst (s.map D.int)), .pu (.int t), .pu (.lst (ns.map D.int)), .pu (.lst (zs.map D.str)), .od P w (al.map fun b => (rowE b, rowD b)), y5, y6, y7, y8, y9, y10, .un] ((sortA rowP al).map rowE) = _
  have hm : ∀ r ∈ sortA rowP al, r ∈ al := fun r h => pm.mem_iff.mp h
  generalize sortA rowP al = rs at hm
  clear e1 s5 s4 s3 s2 rl pm ro e a0 a1 ea
  induction rs with
  | nil => rfl
  | cons r rs ih =>
    have e1 : mDGet P w 4 (mVar 11) [.pu (.lst (s.map D.int)), .pu (.int t), .pu (.lst (ns.map D.int)), .pu (.lst (zs.map D.str)), .od P w (al.map fun b => (rowE b, rowD b)), y5, y6, y7, y8, y9, y10, .pu (rowE r)] = some (rowD r) := ev_dget (v := rowD) ky_row rfl rfl (hm r List.mem_cons_self)
    show (mDGet P w 4 (mVar 11) [.pu (.lst (s.map D.int)), .pu (.int t), .pu (.lst (ns.map D.int)), .pu (.lst (zs.map D.str)), .od P w (al.map fun b => (rowE b, rowD b)), y5, y6, y7, y8, y9, y10, .pu (rowE r)]).bind (fun y => (lcL (gN 11) mYes (mDGet P w 4 (mVar 11)) _ (rs.map rowE)).map (y :: ·)) = _
    rw [e1, Option.bind_some, ih fun x hx => hm x (List.mem_cons_of_mem _ hx)]
    rfl
end KN

set_option Elab.async false
set_option linter.all false
set_option maxRecDepth 100000
set_option maxHeartbeats 4000000
namespace KN
open PySem PySem.Spec PyProof.Rows L2 Evl DD PySem.W
/-! T1: the program reads a row -/
theorem eqv_strs : ∀ a b : List Str, PyData.eqvAll (a.map PyData.str) (b.map PyData.str) = decide (a = b)
  | [], [] => rfl
  | [], _ :: _ => rfl
  | _ :: _, [] => rfl
  | x :: a, y :: b => by
    have ih := eqv_strs a b
    show (PyData.eqv (.str x) (.str y) && PyData.eqvAll (a.map PyData.str) (b.map PyData.str)) = _
    rw [ih]
    show ((x == y) && decide (a = b)) = _
    rw [Bool.eq_iff_iff]
    simp
theorem eqP_strs (a b : List Str) : eqP (.lst (a.map .str)) (.lst (b.map .str)) = some (.bl (decide (a = b))) := by
  show ((pds (a.map D.str)).map PyData.list).bind (fun p => ((pds (b.map D.str)).map PyData.list).bind fun q => if fitP p q = true then some (D.bl (PyData.eqv p q)) else none) = _
  rw [pds_strs, pds_strs]
  simp only [Option.map_some, Option.bind_some]
  rw [if_pos]
  · rw [PyData.eqv, eqv_strs]
  · unfold fitP
    rw [PyData.depth, depth_strs]
    exact decide_eq_true (by omega)
theorem kind_non (k : Kind) : isNonD (kindD k) = false := rfl
abbrev dashW : List Str := ["-"]
def wtW (zs : List Str) : Option Wt := if zs = dashW then some none else match partsW "/" zs with
  | [a, b] => (atomsW a).bind fun x => (atomsW b).map fun y => some (x, y)
  | _ => none
def wtL (w : Wt) : D := .lst [wtD w]
theorem wtW_none {zs : List Str} (h : zs ≠ dashW) (h2 : (partsW "/" zs).length ≠ 2) : wtW zs = none := by
  unfold wtW
  rw [if_neg h]
  split
  · rename_i e
    rw [e] at h2
    exact absurd rfl h2
  · rfl
theorem wtW_two {zs a b : List Str} (h : zs ≠ dashW) (h2 : partsW "/" zs = [a, b]) : wtW zs = (atomsW a).bind fun x => (atomsW b).map fun y => some (x, y) := by
  unfold wtW
  rw [if_neg h, h2]
theorem parts_len (ps : List (List Str)) : lenD [partsD ps] = some (.int (ps.length : Int)) := by
  show some (D.int ((ps.map fun p => D.lst (p.map D.str)).length : Int)) = _
  rw [List.length_map]
theorem F_waiting_ok {zs : List Str} (hl : zs.length ≤ 1000001) (hz : ∀ z ∈ zs, small z) : F_waiting_told [.lst (zs.map .str)] = some (optD wtL (wtW zs)) := by
  refine F_of rfl ?_
  show m_waiting_told [.pu (.lst (zs.map .str)), .un, .un, .un] = _
  unfold m_waiting_told
  have e1 := F_parts_ok (s := "/") hl
  have hs := parts_small (s := "/") hl hz
  have hlen := parts_len
  have hA : ∀ y : List Str, y.length ≤ 1000001 → (∀ z ∈ y, small z) → F_atoms_told [.lst (y.map .str)] = some (optD tupI (atomsW y)) := fun y h1 h2 => F_atoms_ok h1 h2
  have c1 : mTest (mOp eqP (mVar 0) (mLst (few (mCons (mC (.str "-")) mNil)))) [.pu (.lst (zs.map .str)), .un, .un, .un] = some (decide (zs = dashW)) := by
    rw [ev_test ((ev_op rfl (rfl : _ = some (D.lst (dashW.map D.str)))).trans (eqP_strs zs dashW))]
    rfl
  generalize F_atoms_told = FA at hA ⊢
  generalize F_parts_at = FP at e1 ⊢
  by_cases hd : zs = dashW
  · rw [decide_eq_true hd] at c1
    rw [ev_seq_rt ((ev_ifS_t c1).trans rfl)]
    unfold wtW
    rw [if_pos hd]
    rfl
  · rw [decide_eq_false hd] at c1
    rw [ev_seq ((ev_ifS_f c1).trans rfl)]
    clear hl hz
    generalize hp : partsW "/" zs = ps at e1 hs
    rcases ps with _ | ⟨a, _ | ⟨b, _ | ⟨c, r⟩⟩⟩
    · rw [wtW_none hd (by rw [hp]; simp)]
      simp [e1, hlen]
    · rw [wtW_none hd (by rw [hp]; simp)]
      simp [e1, hlen]
    · obtain ⟨n1, n2⟩ := hs a (by simp)
      obtain ⟨b1, b2⟩ := hs b (by simp)
      have i0 : ixD (partsD [a, b]) (.val (.int 0)) = some (.lst (a.map D.str)) := ix0
      have i1 : ixD (partsD [a, b]) (.val (.int 1)) = some (.lst (b.map D.str)) := ix1
      have a1 := hA a n1 n2
      have a2 := hA b b1 b2
      rw [wtW_two hd hp]
      cases ha : atomsW a with
      | none =>
        rw [ha] at a1
        cases hb : atomsW b <;> rw [hb] at a2 <;> simp [e1, hlen, i0, i1, a1, a2, tupI]
      | some as =>
        rw [ha] at a1
        cases hb : atomsW b <;> rw [hb] at a2 <;> simp [e1, hlen, i0, i1, a1, a2, tupI, wtL, wtD]
    · have : ¬ ((r.length : Int) + 1 + 1 + 1 = 2) := by omega
      rw [wtW_none hd (by rw [hp]; simp)]
      simp [e1, hlen, this]
def rowW (zs : List Str) : Option Row := match partsW ";" zs with
  | [a, b, c] => (kindW a).bind fun k => (wtW b).bind fun f => (wtW c).map fun s => (k, f, s)
  | _ => none
theorem rowW_none {zs : List Str} (h2 : (partsW ";" zs).length ≠ 3) : rowW zs = none := by
  unfold rowW
  split
  · rename_i e
    rw [e] at h2
    exact absurd rfl h2
  · rfl
theorem rowW_three {zs a b c : List Str} (h2 : partsW ";" zs = [a, b, c]) : rowW zs = (kindW a).bind fun k => (wtW b).bind fun f => (wtW c).map fun s => (k, f, s) := by
  unfold rowW
  rw [h2]
def rowLn (z : Str) : Option Row := rowW (Txt.split z " ")
theorem F_rowLine_ok {z : Str} (h : small z) : F_row_line [.str z] = some (optD rowD (rowLn z)) := by
  refine F_of rfl ?_
  show m_row_line [.pu (.str z), .un, .un, .un, .un] = _
  unfold m_row_line rowLn
  have ew := F_words_ok h
  generalize hz : Txt.split z " " = zs at ew
  have hl : zs.length ≤ 1000001 := by rw [← hz]; exact cut_many tl_sp (by decide) h
  have hzs : ∀ y ∈ zs, small y := by rw [← hz]; exact small_cut tl_sp (by decide) h
  have e1 := F_parts_ok (s := ";") hl
  have hs := parts_small (s := ";") hl hzs
  have hlen := parts_len
  have hK : ∀ y : List Str, y.length ≤ 1000001 → (∀ z ∈ y, small z) → F_kind_told [.lst (y.map .str)] = some (optD kindD (kindW y)) := fun y h1 h2 => F_kind_ok h1 h2
  have hW : ∀ y : List Str, y.length ≤ 1000001 → (∀ z ∈ y, small z) → F_waiting_told [.lst (y.map .str)] = some (optD wtL (wtW y)) := fun y h1 h2 => F_waiting_ok h1 h2
  generalize F_kind_told = FK at hK ⊢
  generalize F_waiting_told = FW at hW ⊢
  generalize F_parts_at = FP at e1 ⊢
  generalize F_words_of = FO at ew ⊢
  clear hl hzs hz h
  generalize hp : partsW ";" zs = ps at e1 hs
  rcases ps with _ | ⟨a, _ | ⟨b, _ | ⟨c, _ | ⟨d, r⟩⟩⟩⟩
  · rw [rowW_none (by rw [hp]; simp)]
    simp [ew, e1, hlen]
  · rw [rowW_none (by rw [hp]; simp)]
    simp [ew, e1, hlen]
  · rw [rowW_none (by rw [hp]; simp)]
    simp [ew, e1, hlen]
  · obtain ⟨a1, a2⟩ := hs a (by simp)
    obtain ⟨b1, b2⟩ := hs b (by simp)
    obtain ⟨c1, c2⟩ := hs c (by simp)
    have i0 : ixD (partsD [a, b, c]) (.val (.int 0)) = some (.lst (a.map D.str)) := ix0
    have i1 : ixD (partsD [a, b, c]) (.val (.int 1)) = some (.lst (b.map D.str)) := ix1
    have i2 : ixD (partsD [a, b, c]) (.val (.int 2)) = some (.lst (c.map D.str)) := ix2
    have k1 := hK a a1 a2
    have w1 := hW b b1 b2
    have w2 := hW c c1 c2
    rw [rowW_three hp]
    cases ha : kindW a with
    | none =>
      rw [ha] at k1
      cases hb : wtW b <;> rw [hb] at w1 <;> cases hc : wtW c <;> rw [hc] at w2 <;> simp [ew, e1, hlen, i0, i1, i2, k1, w1, w2, wtL]
    | some k =>
      rw [ha] at k1
      cases hb : wtW b <;> rw [hb] at w1 <;> cases hc : wtW c <;> rw [hc] at w2 <;> simp [ew, e1, hlen, i0, i1, i2, k1, w1, w2, wtL, kind_non, rowD]
  · have : ¬ ((r.length : Int) + 1 + 1 + 1 + 1 = 3) := by omega
    rw [rowW_none (by rw [hp]; simp)]
    simp [ew, e1, hlen, this]
end KN

set_option Elab.async false
set_option linter.all false
set_option maxRecDepth 100000
set_option maxHeartbeats 4000000
namespace KN
open PySem PySem.Spec PyProof.Rows L2 Evl DD PySem.W
/-! T2: the law's own way to read a waiting -/
theorem eqv_str (a b : Str) : PyData.eqv (.str a) (.str b) = decide (a = b) := by
  simp only [PyData.eqv, beq_dec]
theorem cnt_strs (s : Str) : ∀ zs : List Str, ((zs.map PyData.str).countP fun z => PyData.eqv z (.str s)) = zs.countP fun z => decide (z = s)
  | [] => rfl
  | z :: zs => by
    rw [List.map_cons, List.countP_cons, List.countP_cons, cnt_strs s zs, eqv_str]
theorem cntP_strs (s : Str) (zs : List Str) : cntP (.lst (zs.map .str)) [.str s] = some (.int ((zs.countP fun z => decide (z = s) : Nat) : Int)) := by
  show ((pds (zs.map D.str)).bind fun ps => if min (PyData.depthAll ps) 0 ≤ 180 then some (D.int ((ps.countP fun z => PyData.eqv z (.str s) : Nat) : Int)) else none) = _
  rw [pds_strs, Option.bind_some, if_pos (by omega), cnt_strs]
theorem cnt_none {s : Str} {zs : List Str} (h : s ∉ zs) : (zs.countP fun z => decide (z = s)) = 0 := by
  rw [List.countP_eq_zero]
  intro z hz
  simp only [decide_eq_true_eq]
  exact fun e => h (e ▸ hz)
theorem cnt_cut {s : Str} {p q : List Str} (h : s ∉ p) : ((p ++ s :: q).countP fun z => decide (z = s)) = (q.countP fun z => decide (z = s)) + 1 := by
  rw [List.countP_append, cnt_none h, List.countP_cons]
  simp
theorem strOk_of {z : Str} (h : okC z) : PyData.strOk z = true := by
  have : z.cps.toList.all (· < 0x110000) = true := List.all_eq_true.mpr fun c hc => by simpa using h c hc
  unfold PyData.strOk
  simpa using this
theorem lay_strs : ∀ {zs : List Str}, (∀ z ∈ zs, okC z) → PyData.canLayAll0 (zs.map PyData.str) = true
  | [], _ => rfl
  | z :: zs, h => by
    rw [List.map_cons, PyData.canLayAll0, lay_strs fun y hy => h y (List.mem_cons_of_mem _ hy)]
    show (PyData.strOk z && true) = true
    rw [strOk_of (h z List.mem_cons_self)]
    rfl
theorem idx_cut {s : Str} : ∀ {p q : List Str}, s ∉ p → idxL ((p ++ s :: q).map PyData.str) (.str s) = some p.length
  | [], q, _ => by
    unfold idxL
    rw [List.nil_append, List.map_cons, List.findIdx?_cons, eqv_str, decide_eq_true rfl, if_pos rfl]
    rfl
  | z :: p, q, h => by
    have ih := idx_cut (s := s) (p := p) (q := q) fun hm => h (List.mem_cons_of_mem _ hm)
    unfold idxL at ih ⊢
    rw [List.cons_append, List.map_cons, List.findIdx?_cons, eqv_str, decide_eq_false (fun e : z = s => h (by rw [← e]; exact List.mem_cons_self)), if_neg Bool.false_ne_true, ih]
    rfl
theorem idxP_cut {s : Str} {p q : List Str} (h : s ∉ p) (hc : ∀ z ∈ p ++ s :: q, okC z) : idxP (.lst ((p ++ s :: q).map .str)) [.str s] = some (.int (p.length : Int)) := by
  show ((pds ((p ++ s :: q).map D.str)).bind fun ps => if SeqAt.shaped (.list ps) = true ∧ SeqAt.shaped (.str s) = true then (idxL ps (.str s)).map fun (j : Nat) => D.int (j : Int) else none) = _
  rw [pds_strs, Option.bind_some, if_pos, idx_cut h]
  · rfl
  · constructor
    · unfold SeqAt.shaped
      rw [PyData.canLay0, lay_strs hc, PyData.depth, depth_strs]
      rfl
    · unfold SeqAt.shaped
      have : PyData.canLay0 (.str s) = true := strOk_of (hc s (by simp))
      rw [this, PyData.depth]
      rfl
theorem sl_to {zs : List D} {b : Nat} (hb : b ≤ zs.length) : slD (.lst zs) none (some (b : Int)) = some (.lst (zs.take b)) := by
  show some (D.lst (DD.cutD zs none (some (b : Int)))) = _
  unfold DD.cutD
  rw [HT.sIx_nat, HT.sIx_none, Nat.min_eq_left hb, List.drop_zero, Nat.sub_zero]
abbrev mWtE (FA : List D → Option D) : MS := (mSeq (mAsg 1 (mMeth idxP (mVar 0) (mCons (mC (.str "/")) mNil))) (mSeq (mPar 2 3 (mCons (mCall FA (mCons (mSl slD (mVar 0) mNoPart (mPart (mVar 1))) mNil)) (mCons (mCall FA (mCons (mSl slD (mVar 0) (mPart (mOp addD (mVar 1) (mC (.int 1)))) mNoPart) mNil)) mNil))) (mSeq (mIfS (mOr (mTest (mOp isND (mVar 2) (mC .non))) (mTest (mOp isND (mVar 3) (mC .non)))) (mRet (mC .non)) mNext) (mRet (mLst (few (mCons (mTup (mCons (mVar 2) (mCons (mVar 3) mNil))) mNil)))))))
theorem wt_end {FA : List D → Option D} {zs : D} {k : Int} {p q : List Str} (hi : idxP zs [.str "/"] = some (.int k)) (s1 : slD zs none (some k) = some (.lst (p.map .str))) (s2 : slD zs (some (k + 1)) none = some (.lst (q.map .str))) (a1 : FA [.lst (p.map .str)] = some (optD tupI (atomsW p))) (a2 : FA [.lst (q.map .str)] = some (optD tupI (atomsW q))) :
    mWtE FA [.pu zs, .un, .un, .un] = some (.rt (optD wtL ((atomsW p).bind fun x => (atomsW q).map fun y => some (x, y)))) := by
  have e1 : mWtE FA [.pu zs, .un, .un, .un] = _ := ev_seq (ev_asg ((ev_meth rfl (ev_cons rfl rfl)).trans hi))
  rw [e1]
  cases ha : atomsW p with
  | none =>
    rw [ha] at a1
    cases hb : atomsW q <;> rw [hb] at a2 <;> simp [s1, s2, a1, a2, tupI]
  | some as =>
    rw [ha] at a1
    cases hb : atomsW q <;> rw [hb] at a2 <;> simp [s1, s2, a1, a2, tupI, wtL, wtD]
theorem slash_dash {p q : List Str} : p ++ ("/" : Str) :: q ≠ dashW := fun e => by
  have h : ("/" : Str) ∈ dashW := by rw [← e]; simp
  exact absurd h (by decide)
theorem F_lawWaiting_ok {zs : List Str} (hl : zs.length ≤ 1000001) (hz : ∀ z ∈ zs, small z) (hc : ∀ z ∈ zs, okC z) : F__law_waiting_told [.lst (zs.map .str)] = some (optD wtL (wtW zs)) := by
  refine F_of rfl ?_
  show m__law_waiting_told [.pu (.lst (zs.map .str)), .un, .un, .un] = _
  have e0 : m__law_waiting_told = mSeq (mIfS (mTest (mOp eqP (mVar 0) (mLst (few (mCons (mC (.str "-")) mNil))))) (mRet (mLst (few (mCons (mC .non) mNil)))) mNext) (mSeq (mIfS (mTest (mOp neP (mMeth cntP (mVar 0) (mCons (mC (.str "/")) mNil)) (mC (.int 1)))) (mRet (mC .non)) mNext) (mWtE F__law_atoms_told)) := rfl
  rw [e0]
  have hA : ∀ y : List Str, y.length ≤ 1000001 → (∀ z ∈ y, small z) → F__law_atoms_told [.lst (y.map .str)] = some (optD tupI (atomsW y)) := fun y h1 h2 => F_lawAtoms_ok h1 h2
  generalize F__law_atoms_told = FA at hA ⊢
  have c1 : mTest (mOp eqP (mVar 0) (mLst (few (mCons (mC (.str "-")) mNil)))) [.pu (.lst (zs.map .str)), .un, .un, .un] = some (decide (zs = dashW)) := by
    rw [ev_test ((ev_op rfl (rfl : _ = some (D.lst (dashW.map D.str)))).trans (eqP_strs zs dashW))]
    rfl
  have c2 : mTest (mOp neP (mMeth cntP (mVar 0) (mCons (mC (.str "/")) mNil)) (mC (.int 1))) [.pu (.lst (zs.map .str)), .un, .un, .un] = some (!decide (((zs.countP fun z => decide (z = ("/" : Str)) : Nat) : Int) = 1)) := by
    rw [ev_test ((ev_op ((ev_meth rfl (ev_cons rfl rfl)).trans (cntP_strs "/" zs)) rfl).trans (neP_int _ _))]
    rfl
  by_cases hd : zs = dashW
  · rw [decide_eq_true hd] at c1
    rw [ev_seq_rt ((ev_ifS_t c1).trans rfl)]
    unfold wtW
    rw [if_pos hd]
    rfl
  · rw [decide_eq_false hd] at c1
    rw [ev_seq ((ev_ifS_f c1).trans rfl)]
    rcases cut_or "/" zs with h1 | ⟨p, q, rfl, h1⟩
    · rw [cnt_none h1] at c2
      rw [ev_seq_rt ((ev_ifS_t (c2.trans rfl)).trans rfl), wtW_none hd (by rw [partsW_none h1]; simp)]
      rfl
    · rcases cut_or "/" q with h2 | ⟨r, t, rfl, h2⟩
      · rw [cnt_cut h1, cnt_none h2] at c2
        rw [ev_seq ((ev_ifS_f (c2.trans rfl)).trans rfl), wtW_two hd (by rw [partsW_cut h1, partsW_none h2])]
        have hp : p.length ≤ 1000001 ∧ q.length ≤ 1000001 := by
          simp only [List.length_append, List.length_cons] at hl
          omega
        refine congrArg (fun o => o) (wt_end (k := (p.length : Int)) (idxP_cut h1 hc) ?_ ?_ (hA p hp.1 fun z hm => hz z (List.mem_append_left _ hm)) (hA q hp.2 fun z hm => hz z (List.mem_append_right _ (List.mem_cons_of_mem _ hm))))
        · rw [sl_to (by simp)]
          simp
        · rw [show (p.length : Int) + 1 = ((p.length + 1 : Nat) : Int) by omega, sl_from]
          simp [List.drop_append]
      · rw [cnt_cut h1, cnt_cut h2] at c2
        have hne : ¬ ((((t.countP fun z => decide (z = ("/" : Str))) + 1 + 1 : Nat) : Int) = 1) := by omega
        rw [decide_eq_false hne] at c2
        rw [ev_seq_rt ((ev_ifS_t (c2.trans rfl)).trans rfl), wtW_none hd (by
          rw [partsW_cut h1, partsW_cut h2]
          have := partsW_pos "/" t
          simp
          intro e
          rw [e] at this
          simp at this)]
        rfl
end KN

set_option Elab.async false
set_option linter.all false
set_option maxRecDepth 100000
set_option maxHeartbeats 4000000
namespace KN
open PySem PySem.Spec PyProof.Rows L2 Evl DD PySem.W
/-! T3: the law's own way to read a row -/
theorem lc_marksI {zs : List Str} {s : Str} {i n : Nat} {ρ : DEnv} (he : ∀ d, mVar i (ρ.set n (.pu d)) = some (.lst (zs.map .str))) (hk : ∀ d, mVar n (ρ.set n (.pu d)) = some d) :
    lcL (gN n) (mTest (mOp eqP (mOp ixD (mVar i) (mVar n)) (mC (.str s)))) (mVar n) ρ ((List.range zs.length).map fun (i : Nat) => D.int (i : Int)) = some ((marksW s zs).map fun (k : Nat) => D.int (k : Int)) := by
  have := lc_gen (set := gN n) (cond := mTest (mOp eqP (mOp ixD (mVar i) (mVar n)) (mC (.str s)))) (elt := mVar n) (ρ := ρ)
    (p := fun d => match d with
      | .val (.int i) => decide (zs[i.toNat]? = some s)
      | _ => false) (g := id) (ds := (List.range zs.length).map fun (i : Nat) => D.int (i : Int)) fun d hd => by
    obtain ⟨i, hi, rfl⟩ := List.mem_map.mp hd
    rw [List.mem_range] at hi
    refine ⟨_, rfl, ?_, fun _ => hk _⟩
    simp only [e_test, e_op, he, hk, Option.bind_some, ix_strs hi, e_C, eqP_str, e_asB]
    show some (decide (zs[i] = s)) = some (decide (zs[(i : Int).toNat]? = some s))
    rw [Int.toNat_natCast, List.getElem?_eq_getElem hi]
    simp
  rw [this, List.map_id, List.filter_map]
  rfl
abbrev mRtE (FK FW : List D → Option D) : MS := (mSeq (mAsg 3 (mCall FK (mCons (mSl slD (mVar 1) mNoPart (mPart (mOp ixD (mVar 2) (mC (.int 0))))) mNil))) (mSeq (mPar 4 5 (mCons (mCall FW (mCons (mSl slD (mVar 1) (mPart (mOp addD (mOp ixD (mVar 2) (mC (.int 0))) (mC (.int 1)))) (mPart (mOp ixD (mVar 2) (mC (.int 1))))) mNil)) (mCons (mCall FW (mCons (mSl slD (mVar 1) (mPart (mOp addD (mOp ixD (mVar 2) (mC (.int 1))) (mC (.int 1)))) mNoPart) mNil)) mNil))) (mSeq (mIfS (mOr (mTest (mOp isND (mVar 3) (mC .non))) (mOr (mTest (mOp isND (mVar 4) (mC .non))) (mTest (mOp isND (mVar 5) (mC .non))))) (mRet (mC .non)) mNext) (mRet (mTup (mCons (mVar 3) (mCons (mOp ixD (mVar 4) (mC (.int 0))) (mCons (mOp ixD (mVar 5) (mC (.int 0))) mNil))))))))
theorem rt_end {FK FW : List D → Option D} {z : Str} {zs : D} {a b : Int} {p q r : List Str} (s0 : slD zs none (some a) = some (.lst (p.map .str))) (s1 : slD zs (some (a + 1)) (some b) = some (.lst (q.map .str))) (s2 : slD zs (some (b + 1)) none = some (.lst (r.map .str)))
    (k1 : FK [.lst (p.map .str)] = some (optD kindD (kindW p))) (w1 : FW [.lst (q.map .str)] = some (optD wtL (wtW q))) (w2 : FW [.lst (r.map .str)] = some (optD wtL (wtW r))) :
    mRtE FK FW [.pu (.str z), .pu zs, .pu (.lst [.int a, .int b]), .un, .un, .un, .un] = some (.rt (optD rowD ((kindW p).bind fun k => (wtW q).bind fun f => (wtW r).map fun s => (k, f, s)))) := by
  cases ha : kindW p with
  | none =>
    rw [ha] at k1
    cases hb : wtW q <;> rw [hb] at w1 <;> cases hc : wtW r <;> rw [hc] at w2 <;> simp [ix1, s0, s1, s2, k1, w1, w2, wtL]
  | some k =>
    rw [ha] at k1
    cases hb : wtW q <;> rw [hb] at w1 <;> cases hc : wtW r <;> rw [hc] at w2 <;> simp [ix1, s0, s1, s2, k1, w1, w2, wtL, kind_non, rowD]
theorem okC_cut {z b : Str} {s : Nat} (hb : tl b = [s]) (hs : s < 256) (h : okC z) : ∀ p ∈ Txt.split z b, okC p := fun p hp c hc => h c ((cut_facts hb hs).1 p hp |>.2.2 c hc)
theorem F_lawRow_ok {z : Str} (h : small z) (hc : okC z) : F__law_row_told [.str z] = some (optD rowD (rowLn z)) := by
  refine F_of rfl ?_
  show m__law_row_told [.pu (.str z), .un, .un, .un, .un, .un, .un] = _
  have e0 : m__law_row_told = mSeq (mAsg 1 (mMeth splitD (mVar 0) (mCons (mC (.str " ")) mNil))) (mSeq (mAsg 2 (mLst (mLc (mRange1 (mCons (mCall lenD (mCons (mVar 1) mNil)) mNil)) (gN 6) (mTest (mOp eqP (mOp ixD (mVar 1) (mVar 6)) (mC (.str ";")))) (mVar 6) [6]))) (mSeq (mIfS (mTest (mOp neP (mCall lenD (mCons (mVar 2) mNil)) (mC (.int 2)))) (mRet (mC .non)) mNext) (mRtE F__law_kind_told F__law_waiting_told))) := rfl
  rw [e0]
  have ew := splitD_ok tl_sp (big_of h)
  unfold rowLn
  have hcz := okC_cut tl_sp (by decide) hc
  have hl : (Txt.split z " ").length ≤ 1000001 := cut_many tl_sp (by decide) h
  have hzs : ∀ y ∈ Txt.split z " ", small y := small_cut tl_sp (by decide) h
  generalize Txt.split z " " = zs at ew hl hzs hcz
  have hs := parts_small (s := ";") hl hzs
  have hK : ∀ y : List Str, y.length ≤ 1000001 → (∀ z ∈ y, small z) → F__law_kind_told [.lst (y.map .str)] = some (optD kindD (kindW y)) := fun y h1 h2 => F_lawKind_ok h1 h2
  have hW : ∀ y : List Str, y.length ≤ 1000001 → (∀ z ∈ y, small z) → (∀ z ∈ y, okC z) → F__law_waiting_told [.lst (y.map .str)] = some (optD wtL (wtW y)) := fun y h1 h2 h3 => F_lawWaiting_ok h1 h2 h3
  generalize F__law_kind_told = FK at hK ⊢
  generalize F__law_waiting_told = FW at hW ⊢
  rw [ev_seq (ev_asg' (ρ' := [.pu (.str z), .pu (.lst (zs.map .str)), .un, .un, .un, .un, .un]) ((ev_meth rfl (ev_cons rfl rfl)).trans ew) rfl)]
  have e2 : mRange1 (mCons (mCall lenD (mCons (mVar 1) mNil)) mNil) [.pu (.str z), .pu (.lst (zs.map .str)), .un, .un, .un, .un, .un] = some ((List.range zs.length).map fun (i : Nat) => D.int (i : Int)) := by
    rw [e_range1 (a := (zs.length : Int)) (by simp) (by omega), ← range1_eq, Int.toNat_natCast]
  have e1 := lc_marksI (zs := zs) (s := ";") (i := 1) (n := 6) (ρ := [.pu (.str z), .pu (.lst (zs.map .str)), .un, .un, .un, .un, .un]) (fun _ => by simp) (fun _ => by simp)
  have e3 : mLst (mLc (mRange1 (mCons (mCall lenD (mCons (mVar 1) mNil)) mNil)) (gN 6) (mTest (mOp eqP (mOp ixD (mVar 1) (mVar 6)) (mC (.str ";")))) (mVar 6) [6]) [.pu (.str z), .pu (.lst (zs.map .str)), .un, .un, .un, .un, .un] = some (.lst ((marksW ";" zs).map fun (k : Nat) => D.int (k : Int))) := by
    refine ev_lst ?_
    rw [ev_lc e2 (by rw [List.length_map, List.length_range]; omega)]
    exact e1
  rw [ev_seq (ev_asg' (ρ' := [.pu (.str z), .pu (.lst (zs.map .str)), .pu (.lst ((marksW ";" zs).map fun (k : Nat) => D.int (k : Int))), .un, .un, .un, .un]) e3 rfl)]
  have c1 : mTest (mOp neP (mCall lenD (mCons (mVar 2) mNil)) (mC (.int 2))) [.pu (.str z), .pu (.lst (zs.map .str)), .pu (.lst ((marksW ";" zs).map fun (k : Nat) => D.int (k : Int))), .un, .un, .un, .un] = some (!decide (((marksW ";" zs).length : Int) = 2)) := by
    have el : mCall lenD (mCons (mVar 2) mNil) [.pu (.str z), .pu (.lst (zs.map .str)), .pu (.lst ((marksW ";" zs).map fun (k : Nat) => D.int (k : Int))), .un, .un, .un, .un] = some (.int ((marksW ";" zs).length : Int)) := by
      show some (D.int (((marksW ";" zs).map fun (k : Nat) => D.int (k : Int)).length : Int)) = _
      rw [List.length_map]
    exact (ev_test ((ev_op el rfl).trans (neP_int _ _))).trans rfl
  rcases cut_or ";" zs with h1 | ⟨p, q, rfl, h1⟩
  · rw [marks_none h1] at c1 ⊢
    rw [rowW_none (by rw [partsW_none h1]; simp)]
    exact ev_seq_rt ((ev_ifS_t (c1.trans rfl)).trans rfl)
  · rcases cut_or ";" q with h2 | ⟨r, t, rfl, h2⟩
    · rw [marks_cut h1, marks_none h2] at c1 ⊢
      rw [rowW_none (by rw [partsW_cut h1, partsW_none h2]; simp)]
      exact ev_seq_rt ((ev_ifS_t (c1.trans rfl)).trans rfl)
    · rcases cut_or ";" t with h3 | ⟨u, v, rfl, h3⟩
      · rw [marks_cut h1, marks_cut h2, marks_none h3] at c1 ⊢
        have hp : partsW ";" (p ++ (";" : Str) :: (r ++ (";" : Str) :: t)) = [p, r, t] := by rw [partsW_cut h1, partsW_cut h2, partsW_none h3]
        rw [rowW_three hp]
        rw [hp] at hs
        obtain ⟨p1, p2⟩ := hs p (by simp)
        obtain ⟨r1, r2⟩ := hs r (by simp)
        obtain ⟨t1, t2⟩ := hs t (by simp)
        have hm : (p.length :: (r.length :: ([] : List Nat).map fun k => k + (r.length + 1)).map (fun k => k + (p.length + 1))).map (fun (k : Nat) => D.int (k : Int)) = [.int (p.length : Int), .int ((r.length + (p.length + 1) : Nat) : Int)] := by simp
        rw [ev_seq ((ev_ifS_f (c1.trans rfl)).trans rfl), hm]
        refine rt_end ?_ ?_ ?_ (hK p p1 p2) (hW r r1 r2 fun y hy => hcz y (by simp [hy])) (hW t t1 t2 fun y hy => hcz y (by simp [hy]))
        · rw [sl_to (by simp)]
          simp
        · rw [show (p.length : Int) + 1 = ((p.length + 1 : Nat) : Int) by omega, sl_mid (by omega) (by simp; omega)]
          have e : (p ++ (";" : Str) :: (r ++ (";" : Str) :: t)).map D.str = (p ++ [(";" : Str)]).map D.str ++ (r.map D.str ++ ((";" : Str) :: t).map D.str) := by simp
          rw [e, List.drop_left' (by simp), show r.length + (p.length + 1) - (p.length + 1) = r.length by omega, List.take_left' (by simp)]
        · rw [show (((r.length + (p.length + 1) : Nat) : Int)) + 1 = ((r.length + (p.length + 1) + 1 : Nat) : Int) by omega, sl_from]
          have e : (p ++ (";" : Str) :: (r ++ (";" : Str) :: t)).map D.str = (p ++ (";" : Str) :: (r ++ [(";" : Str)])).map D.str ++ t.map D.str := by simp
          rw [e, List.drop_append_of_le_length (by simp; omega), List.drop_eq_nil_of_le (by simp; omega), List.nil_append]
      · have hk : rowW (p ++ (";" : Str) :: (r ++ (";" : Str) :: (u ++ (";" : Str) :: v))) = none := rowW_none (by
          rw [partsW_cut h1, partsW_cut h2, partsW_cut h3]
          have := partsW_pos ";" v
          simp
          intro e
          rw [e] at this
          simp at this)
        have hne : ¬ (((marksW ";" (p ++ (";" : Str) :: (r ++ (";" : Str) :: (u ++ (";" : Str) :: v)))).length : Int) = 2) := by
          rw [marks_cut h1, marks_cut h2, marks_cut h3]
          simp
          omega
        rw [decide_eq_false hne] at c1
        rw [hk]
        exact ev_seq_rt ((ev_ifS_t (c1.trans rfl)).trans rfl)
end KN

set_option Elab.async false
set_option linter.all false
set_option maxRecDepth 100000
set_option maxHeartbeats 4000000
namespace KN
open PySem PySem.Spec PyProof.Rows L2 Evl DD PySem.W
/-! T4: the keys of rows, the program's and the law's -/
def wkD : Wt → D
  | none => .tup [.val (.int 0), .tup [], .tup []]
  | some w => .tup [.val (.int 1), tupI w.1, tupI w.2]
def wkP : Wt → PyData
  | none => .tuple [.int 0, .tuple [], .tuple []]
  | some w => .tuple [.int 1, .tuple (w.1.map .int), .tuple (w.2.map .int)]
def rkD (r : Row) : D := .tup [kindD r.1, wkD r.2.1, wkD r.2.2]
def rkP (r : Row) : PyData := .tuple [kindP r.1, wkP r.2.1, wkP r.2.2]
theorem F_wkey_ok (w : Wt) : F_waiting_key [wtD w] = some (wkD w) := by
  refine F_of rfl ?_
  show m_waiting_key [.pu (wtD w)] = _
  unfold m_waiting_key
  cases w with
  | none => rfl
  | some w =>
    have e : mTest (mOp isND (mVar 0) (mC .non)) [.pu (wtD (some w))] = some false := rfl
    refine ev_ret ((ev_if_f e).trans ?_)
    have e1 : mTup (mCons (mC (.int 1)) mNil) [.pu (wtD (some w))] = some (.tup [.val (.int 1)]) := rfl
    have e2 : mVar 0 [.pu (wtD (some w))] = some (.tup [tupI w.1, tupI w.2]) := rfl
    have e3 : addD (.tup [.val (.int 1)]) (.tup [tupI w.1, tupI w.2]) = some (wkD (some w)) := by
      show (if [D.val (.int 1)].length + [tupI w.1, tupI w.2].length ≤ big then some (D.tup ([D.val (.int 1)] ++ [tupI w.1, tupI w.2])) else none) = _
      rw [if_pos (by rw [big_eq]; simp)]
      rfl
    exact (ev_op e1 e2).trans e3
theorem F_key_ok (r : Row) : F_key_of_row [rowD r] = some (rkD r) := by
  refine F_of rfl ?_
  show m_key_of_row [.pu (rowD r), .un, .un, .un] = _
  unfold m_key_of_row
  have s1 : mAsgG (gT [1, 2, 3]) (mVar 0) [.pu (rowD r), .un, .un, .un] = some (.nx [.pu (rowD r), .pu (kindD r.1), .pu (wtD r.2.1), .pu (wtD r.2.2)]) := rfl
  refine (ev_seq s1).trans (ev_ret ?_)
  have e1 : mCall F_waiting_key (mCons (mVar 2) mNil) [.pu (rowD r), .pu (kindD r.1), .pu (wtD r.2.1), .pu (wtD r.2.2)] = _ := (ev_call (ev_cons rfl rfl)).trans (F_wkey_ok r.2.1)
  have e2 : mCall F_waiting_key (mCons (mVar 3) mNil) [.pu (rowD r), .pu (kindD r.1), .pu (wtD r.2.1), .pu (wtD r.2.2)] = _ := (ev_call (ev_cons rfl rfl)).trans (F_wkey_ok r.2.2)
  exact ev_tup3 rfl e1 e2
theorem pd_wk (w : Wt) : pd (wkD w) = some (wkP w) := by
  cases w with
  | none => rfl
  | some w =>
    show ((pd (.int 1)).bind fun o => (((pd (tupI w.1)).bind fun q => (((pd (tupI w.2)).bind fun r => some [r]).map (q :: ·)))).map (o :: ·)).map PyData.tuple = _
    rw [pd_tupI, pd_tupI]
    rfl
theorem pd_rk (r : Row) : pd (rkD r) = some (rkP r) := by
  show ((pd (kindD r.1)).bind fun a => (((pd (wkD r.2.1)).bind fun b => (((pd (wkD r.2.2)).bind fun c => some [c]).map (b :: ·))).map (a :: ·))).map PyData.tuple = _
  rw [pd_kind, pd_wk, pd_wk]
  rfl
theorem alike_wk (a b : Wt) : alike (wkP a) (wkP b) = true := by
  have hn : ∀ xs : List Int, alikeAll (xs.map .int) [] = true := fun xs => alike_ints xs []
  cases a <;> cases b <;> simp [wkP, alike, alikeAll, alike_ints, hn]
theorem alike_rk (a b : Row) : alike (rkP a) (rkP b) = true := by
  unfold rkP
  simp [alike, alikeAll, alike_kind, alike_wk]
theorem depth_wk (a : Wt) : (wkP a).depth ≤ 3 := by
  cases a <;> simp [wkP, PyData.depth, PyData.depthAll, depth_ints]
theorem depth_rk (a : Row) : (rkP a).depth ≤ 180 := by
  have h1 := depth_wk a.2.1
  have h2 := depth_wk a.2.2
  have h3 := depth_kind a.1
  unfold rkP
  simp only [PyData.depth, PyData.depthAll]
  omega
theorem ltC_rk (a b : Row) : ltC (rkP a) (rkP b) = true := by
  have h1 := depth_rk a
  unfold ltC fitP
  rw [alike_rk, decide_eq_true (by omega)]
  rfl
theorem keys_rk (rs : List Row) : Keys (rs.map rkD) (rs.map rkP) := keys_of pd_rk ltC_rk rs
/-! the same order -/
theorem eqv_wk (a b : Wt) : PyData.eqv (wkP a) (wkP b) = (PyData.eqv (.bool a.isSome) (.bool b.isSome) && PyData.eqv (wtP a) (wtP b)) := by
  cases a <;> cases b <;> simp [wkP, wtP, PyData.eqv, PyData.eqvAll]
theorem alike_int (i j : Int) : alike (.int i) (.int j) = true := by rw [alike]
theorem alike_bool (i j : Bool) : alike (.bool i) (.bool j) = true := by rw [alike]
theorem lt_wk (a b : Wt) : dataLt (wkP a) (wkP b) = if PyData.eqv (.bool a.isSome) (.bool b.isSome) = true then dataLt (wtP a) (wtP b) else dataLt (.bool a.isSome) (.bool b.isSome) := by
  cases a with
  | none =>
    cases b with
    | none =>
      rw [if_pos (by simp [PyData.eqv]), lt_irr, lt_irr]
    | some b =>
      rw [if_neg (by simp [PyData.eqv])]
      unfold wkP
      rw [dataLt_tuple, dataLt_cons (alike_int 0 1), if_neg (by simp [PyData.eqv]), dataLt_int]
      show _ = dataLt (.bool false) (.bool true)
      rw [dataLt_bool]
      rfl
  | some a =>
    cases b with
    | none =>
      rw [if_neg (by simp [PyData.eqv])]
      unfold wkP
      rw [dataLt_tuple, dataLt_cons (alike_int 1 0), if_neg (by simp [PyData.eqv]), dataLt_int]
      show _ = dataLt (.bool true) (.bool false)
      rw [dataLt_bool]
      rfl
    | some b =>
      rw [if_pos (by simp [PyData.eqv])]
      unfold wkP wtP
      rw [dataLt_tuple, dataLt_cons (alike_int 1 1), if_pos (by simp [PyData.eqv]), dataLt_tuple]
theorem lt_rk (a b : Row) : dataLt (rkP a) (rkP b) = dataLt (rowP a) (rowP b) := by
  unfold rkP rowP
  rw [dataLt_tuple, dataLt_tuple, dataLt_cons (alike_kind _ _), dataLt_cons (alike_wk _ _), dataLt_cons (alike_wk _ _)]
  rw [dataLt_cons (alike_kind _ _), dataLt_cons (alike_bool _ _), dataLt_cons (alike_wt _ _), dataLt_cons (alike_bool _ _), dataLt_cons (alike_wt _ _)]
  rw [eqv_wk, eqv_wk, lt_wk, lt_wk]
  cases PyData.eqv (kindP a.1) (kindP b.1) with
  | false => rfl
  | true =>
    cases PyData.eqv (.bool a.2.1.isSome) (.bool b.2.1.isSome) with
    | false => rfl
    | true =>
      cases PyData.eqv (wtP a.2.1) (wtP b.2.1) with
      | false => rfl
      | true =>
        cases PyData.eqv (.bool a.2.2.isSome) (.bool b.2.2.isSome) with
        | false => rfl
        | true =>
          cases PyData.eqv (wtP a.2.2) (wtP b.2.2) <;> rfl
theorem fall_congr {α : Type} {u v : α → PyData} (h : ∀ a b, dataLt (u a) (u b) = dataLt (v a) (v b)) : ∀ (as : List α) (i : Nat), fallAt i (as.map u) = fallAt i (as.map v)
  | [], i => rfl
  | [a], i => rfl
  | a :: b :: r, i => by
    have ih := fall_congr h (b :: r) (i + 1)
    show (if dataLt (u a) (u b) = true then fallAt (i + 1) ((b :: r).map u) else some i) = (if dataLt (v a) (v b) = true then fallAt (i + 1) ((b :: r).map v) else some i)
    rw [h, ih]
/-! reading a table -/
def tableOut (z : Str) : Except Nat (List Row) := match outA rowLn z with
  | .error k => .error k
  | .ok rs => match fallAt 1 (rs.map rowP) with
    | none => .ok rs
    | some k => .error k
def rowsD (rs : List Row) : D := .lst (rs.map rowD)
theorem row_non (r : Row) : isNonD (rowD r) = false := rfl
section
variable {Tb : Addr → Option (List D → Option D)} {C f : Addr}
theorem F_readTable_ok (hF : Tb f = some F_row_line) {z : Str} (h : small z) :
    F_read_table f Tb C [.str z] = some (resX C (outD rowsD (tableOut z))) := by
  have e := F_readAny_ok (C := C) (t := rowD) hF (fun l hl => F_rowLine_ok hl) row_non h
  have e0 : mCallX (F_read_any Tb C) (mCons (mVar 0) (mCons (mC (.ref f)) mNil)) [.pu (.str z), .un, .un] = some (resL rowD C (outA rowLn z)) := (ev_callX (ev_cons rfl (ev_cons rfl rfl))).trans e
  unfold tableOut
  cases ho : outA rowLn z with
  | error k =>
    rw [ho] at e0
    exact X_ex rfl (ev_seq_ex (ev_asgXx e0))
  | ok rs =>
    rw [ho] at e0
    have hlr : rs.length ≤ 1000001 := outA_len h ho
    have hk := F_check_ok (C := C) (keys_rk rs) (by rw [List.length_map]; omega) 0
    have ek : mLst (mLc (mItems (mVar 1)) (gN 2) mYes (mCall F_key_of_row (mCons (mVar 2) mNil)) [2]) [.pu (.str z), .pu (rowsD rs), .un] = some (.lst (rs.map rkD)) := by
      refine ev_lst ?_
      rw [ev_lc (ds := rs.map rowD) rfl (by rw [List.length_map]; omega)]
      exact lc_call (t := rowD) (g := rkD) (fun d => by simp) fun r _ => F_key_ok r
    have e2 : mCallX (F_check_ascending C) (mCons (mLst (mLc (mItems (mVar 1)) (gN 2) mYes (mCall F_key_of_row (mCons (mVar 2) mNil)) [2])) (mCons (mC (.int 0)) mNil)) [.pu (.str z), .pu (rowsD rs), .un] = _ := (ev_callX (ev_cons ek (ev_cons rfl rfl))).trans hk
    rw [fall_congr lt_rk] at e2
    have e1 : m_read_table f Tb C [.pu (.str z), .un, .un] = (mSeq (mDropX (mCallX (F_check_ascending C) (mCons (mLst (mLc (mItems (mVar 1)) (gN 2) mYes (mCall F_key_of_row (mCons (mVar 2) mNil)) [2])) (mCons (mC (.int 0)) mNil)))) (mRet (mVar 1))) [.pu (.str z), .pu (rowsD rs), .un] := ev_seq (ev_asgX e0)
    dsimp only
    cases hf : fallAt 1 (rs.map rowP) with
    | none =>
      rw [hf] at e2
      exact X_of (d := rowsD rs) rfl (e1.trans ((ev_seq (ev_dropX e2)).trans rfl))
    | some n =>
      rw [hf] at e2
      refine (X_ex (C := C) (f := "line") (x := .int ((n : Int) + 0)) (ρ := [.pu (.str z), .pu (rowsD rs), .un]) rfl (e1.trans (ev_seq_ex (ev_dropXx e2)))).trans ?_
      rw [Int.add_zero]
      rfl
theorem F_note_ok (hF : Tb f = some F_row_line) {z : Str} (h : small z) : F__law_note C f Tb [.str z] = some (noteX (outD rowsD (tableOut z))) :=
  ev_runF rfl (note_ok (F_readTable_ok hF h))
end
end KN

set_option Elab.async false
set_option linter.all false
set_option maxRecDepth 100000
set_option maxHeartbeats 4000000
namespace KN
open PySem PySem.Spec PyProof.Rows L2 Evl DD PySem.W
/-! T5: what is due -/
abbrev mDueB (F : List D → Option D) : MS := mSeq (mAsg 3 (mCall F (mCons (mVar 2) mNil))) (mSeq (mIfS (mTest (mOp isND (mVar 3) (mC .non))) (fun ρ => (mRet (mTup (mCons (mC (.str "bad")) (mCons (mCall lenD (mCons (mVar 1) mNil)) mNil)))) (frz 1 ρ)) mNext) (mApp 1 (mVar 3)))
section
variable {α : Type} {Q : Str → Prop} {t : α → D} {F : List D → Option D} {g : Str → Option α}
theorem due_step (hg : ∀ l, Q l → F [.str l] = some (optD t (g l))) (ht : ∀ a, isNonD (t a) = false) {z l : Str} {acc : List D} {y x4 : DE} (hs : Q l) (hb : acc.length < big) :
    mDueB F [.pu (.str z), .ow acc, .pu (.str l), y, x4] = some (match g l with
      | none => .rt (.tup [.str "bad", .int (acc.length : Int)])
      | some a => .nx [.pu (.str z), .ow (acc ++ [t a]), .pu (.str l), .pu (t a), x4]) := by
  have e0 : mCall F (mCons (mVar 2) mNil) [.pu (.str z), .ow acc, .pu (.str l), y, x4] = some (optD t (g l)) := by
    simp only [e_call, e_cons, e_var2, e_nil, Option.bind_some, Option.map_some, hg l hs]
  have e1 : mDueB F [.pu (.str z), .ow acc, .pu (.str l), y, x4] = (mSeq (mIfS (mTest (mOp isND (mVar 3) (mC .non))) (fun ρ => (mRet (mTup (mCons (mC (.str "bad")) (mCons (mCall lenD (mCons (mVar 1) mNil)) mNil)))) (frz 1 ρ)) mNext) (mApp 1 (mVar 3))) [.pu (.str z), .ow acc, .pu (.str l), .pu (optD t (g l)), x4] := ev_seq (ev_asg e0)
  rw [e1]
  cases hgl : g l with
  | none => exact ev_seq_rt ((ev_ifS_t rfl).trans rfl)
  | some a =>
    have hq : mTest (mOp isND (mVar 3) (mC .non)) [.pu (.str z), .ow acc, .pu (.str l), .pu (t a), x4] = some false := by
      simp [ht]
    refine (ev_seq ((ev_ifS_f hq).trans rfl)).trans ?_
    show (if acc.length < big then some (Out.nx [.pu (.str z), .ow (acc ++ [t a]), .pu (.str l), .pu (t a), x4]) else none) = _
    rw [if_pos hb]
theorem for_due (hg : ∀ l, Q l → F [.str l] = some (optD t (g l))) (ht : ∀ a, isNonD (t a) = false) (z : Str) (x4 : DE) : ∀ (ls : List Str) (acc : List D) (x y : DE), acc.length + ls.length ≤ big → (∀ l ∈ ls, Q l) →
    (∀ ds, runL g acc.length ls = .ok ds → ∃ x' y', forL (gN 2) (mDueB F) (ls.map D.str) [.pu (.str z), .ow acc, x, y, x4] = some (.nx [.pu (.str z), .ow (acc ++ ds.map t), x', y', x4])) ∧
    (∀ n, runL g acc.length ls = .error n → forL (gN 2) (mDueB F) (ls.map D.str) [.pu (.str z), .ow acc, x, y, x4] = some (.rt (.tup [.str "bad", .int (n : Int)])))
  | [], acc, x, y, hl, hs => ⟨fun ds h => by cases h; exact ⟨x, y, by simp only [List.map_nil, List.append_nil]; rfl⟩, fun k h => by cases h⟩
  | l :: r, acc, x, y, hl, hs => by
    have hb : acc.length < big := by simp at hl; omega
    have e := due_step (z := z) (y := y) (x4 := x4) hg ht (hs l List.mem_cons_self) hb
    have h1 : gN 2 (D.str l) [.pu (.str z), .ow acc, x, y, x4] = some [.pu (.str z), .ow acc, .pu (.str l), y, x4] := rfl
    cases hgl : g l with
    | none =>
      rw [hgl] at e
      refine ⟨fun ds h => ?_, fun k h => ?_⟩
      · unfold runL at h
        rw [hgl] at h
        cases h
      · unfold runL at h
        rw [hgl] at h
        cases h
        exact for_cons_rt h1 e
    | some d =>
      rw [hgl] at e
      obtain ⟨i1, i2⟩ := for_due hg ht z x4 r (acc ++ [t d]) (.pu (.str l)) (.pu (t d)) (by simp at hl ⊢; omega) (fun l hm => hs l (List.mem_cons_of_mem _ hm))
      rw [List.length_append] at i1 i2
      refine ⟨fun ds h => ?_, fun k h => ?_⟩
      · unfold runL at h
        rw [hgl] at h
        dsimp only at h
        split at h
        · rename_i ds' e2
          cases h
          obtain ⟨x', y', e'⟩ := i1 ds' e2
          refine ⟨x', y', (for_cons_nx h1 e).trans ?_⟩
          rw [List.append_assoc, List.singleton_append] at e'
          exact e'
        · cases h
      · unfold runL at h
        rw [hgl] at h
        dsimp only at h
        split at h
        · cases h
        · rename_i k' e2
          cases h
          exact (for_cons_nx h1 e).trans (i2 k e2)
end
abbrev mDueE : MS := mSeq (mAsg 4 (mCall F__law_rising (mCons (mLst (mLc (mItems (mVar 1)) (gN 3) mYes (mCall F__law_row_key (mCons (mVar 3) mNil)) [3])) mNil))) (mSeq (mIfS (mTest (mOp notND (mVar 4) (mC .non))) (mRet (mTup (mCons (mC (.str "bad")) (mCons (mVar 4) mNil)))) mNext) (mRet (mVar 1)))
theorem F_due_ok {z : Str} (h : small z) (hc : okC z) : F__law_due [.str z] = some (noteX (outD rowsD (tableOut z))) := by
  refine F_of rfl ?_
  show m__law_due [.pu (.str z), .un, .un, .un, .un] = _
  have e0 : m__law_due = mSeq (mIfS (mTest (mOp eqP (mVar 0) (mC (.str "")))) (mRet (mLst (few mNil))) mNext) (mSeq (mAsgO 1 (few mNil)) (mSeq (mFor (mItems (mMeth splitD (mVar 0) (mCons (mC (.str "\n")) mNil))) (gN 2) (mDueB F__law_row_told)) (fun ρ => mDueE (frz 1 ρ)))) := rfl
  have c : mTest (mOp eqP (mVar 0) (mC (.str ""))) [.pu (.str z), .un, .un, .un, .un] = some (decide (z = "")) := by
    simp only [e_test, e_op, e_var0, e_C, Option.bind_some, eqP_str, e_asB]
  have hg : ∀ l, (small l ∧ okC l) → F__law_row_told [.str l] = some (optD rowD (rowLn l)) := fun l hl => F_lawRow_ok hl.1 hl.2
  rw [e0]
  generalize F__law_row_told = F at hg ⊢
  unfold tableOut outA
  by_cases hz : z = ""
  · rw [decide_eq_true hz] at c
    rw [ev_seq_rt ((ev_ifS_t c).trans rfl), if_pos hz]
    rfl
  · rw [decide_eq_false hz] at c
    rw [if_neg hz, ev_seq ((ev_ifS_f c).trans rfl)]
    have e1 : ∀ (m : MS) (r : DEnv), (mSeq (mAsgO 1 (few mNil)) m) [.pu (.str z), .un, .un, .un, .un] = m [.pu (.str z), .ow [], .un, .un, .un] := fun m r => ev_seq rfl
    rw [e1 _ []]
    have hq : ∀ l ∈ Txt.split z "\n", small l ∧ okC l := fun l hl => ⟨small_cut tl_nl (by decide) h l hl, okC_cut tl_nl (by decide) hc l hl⟩
    obtain ⟨i1, i2⟩ := for_due hg row_non z .un (Txt.split z "\n") [] .un .un (by simpa using lines_big h) hq
    have e2 : mFor (mItems (mMeth splitD (mVar 0) (mCons (mC (.str "\n")) mNil))) (gN 2) (mDueB F) [.pu (.str z), .ow [], .un, .un, .un] = forL (gN 2) (mDueB F) ((Txt.split z "\n").map D.str) [.pu (.str z), .ow [], .un, .un, .un] := by
      simp only [e_for, e_items, e_meth, e_var0, e_cons, e_C, e_nil, Option.bind_some, Option.map_some, splitD_ok tl_nl (big_of h), e_itemsD_lst]
    cases hr : runL rowLn 0 (Txt.split z "\n") with
    | error n => rw [ev_seq_rt (e2.trans (i2 n hr))]; rfl
    | ok rs =>
      obtain ⟨x', y', e3⟩ := i1 rs hr
      rw [List.nil_append] at e3
      rw [ev_seq (e2.trans e3)]
      have hl : rs.length ≤ 1000001 := by
        rw [runL_len hr]
        exact cut_many tl_nl (by decide) h
      have hk := F_lawRising_ok (keys_rows rs) (by rw [List.length_map]; exact hl)
      show mDueE [.pu (.str z), .pu (rowsD rs), x', y', .un] = _
      have ek : mLst (mLc (mItems (mVar 1)) (gN 3) mYes (mCall F__law_row_key (mCons (mVar 3) mNil)) [3]) [.pu (.str z), .pu (rowsD rs), x', y', .un] = some (.lst (rs.map rowE)) := by
        refine ev_lst ?_
        rw [ev_lc (ds := rs.map rowD) rfl (by rw [List.length_map]; omega)]
        exact lc_call (t := rowD) (g := rowE) (fun d => by simp) fun r _ => F_rowKey_ok r
      have e4 : mDueE [.pu (.str z), .pu (rowsD rs), x', y', .un] = (mSeq (mIfS (mTest (mOp notND (mVar 4) (mC .non))) (mRet (mTup (mCons (mC (.str "bad")) (mCons (mVar 4) mNil)))) mNext) (mRet (mVar 1))) [.pu (.str z), .pu (rowsD rs), x', y', .pu (optN (fallAt 1 (rs.map rowP)))] := ev_seq (ev_asg ((ev_call (ev_cons ek rfl)).trans hk))
      have e5 : mTest (mOp notND (mVar 4) (mC .non)) [.pu (.str z), .pu (rowsD rs), x', y', .pu (optN (fallAt 1 (rs.map rowP)))] = some (!(fallAt 1 (rs.map rowP)).isNone) := by
        simp only [e_test, e_op, e_var4, e_C, Option.bind_some, e_notN, e_asB, optN_non]
      rw [e4]
      dsimp only
      cases hf : fallAt 1 (rs.map rowP) with
      | none =>
        rw [hf] at e5
        exact (ev_seq ((ev_ifS_f e5).trans rfl)).trans rfl
      | some n =>
        rw [hf] at e5
        exact ev_seq_rt ((ev_ifS_t e5).trans rfl)
end KN

set_option Elab.async false
set_option linter.all false
set_option maxRecDepth 100000
set_option maxHeartbeats 4000000
namespace KN
open PySem PySem.Spec PyProof.Rows L2 Evl DD PySem.W
/-! N19: the words of kinds -/
def Six (n : Int) : Prop := 0 ≤ n ∧ n < 1000000
def wordI (n : Int) : Str := Str.ofString (toString n)
theorem tl_wordI {n : Int} (h : Six n) : tl (wordI n) = TL.numL n.toNat := by
  have e : n = ((n.toNat : Nat) : Int) := by have := h.1; omega
  unfold wordI
  rw [e]
  exact TL.tl_num n.toNat
theorem len_wordI {n : Int} (h : Six n) : (tl (wordI n)).length ≤ 6 := by
  rw [tl_wordI h]
  exact TL.numL_len (by decide) (by have := h.2; have := h.1; omega)
theorem dig_wordI {n : Int} (h : Six n) : ∀ c ∈ tl (wordI n), 48 ≤ c ∧ c ≤ 57 := fun c hc => by
  rw [tl_wordI h] at hc
  exact TL.numL_digits n.toNat c hc
theorem ok_wordI {n : Int} (h : Six n) : Ok 6 (wordI n) := ⟨by rw [len_tl]; exact len_wordI h, fun c hc => by have := dig_wordI h c hc; omega⟩
theorem numL_head : ∀ n : Nat, 10 ≤ n → (TL.numL n).head? ≠ some 48 := fun n => by
  induction n using Nat.strongRecOn with
  | _ n ih =>
    intro hn
    rw [TL.numL_step hn]
    by_cases h : n / 10 < 10
    · rw [TL.numL_lt h]
      show some (48 + n / 10) ≠ some 48
      simp
      omega
    · have := ih (n / 10) (by omega) (by omega)
      have hne := TL.numL_ne (n / 10)
      cases e : TL.numL (n / 10) with
      | nil => exact absurd e hne
      | cons c r =>
        rw [e] at this
        exact this
theorem isNum_wordI {n : Int} (h : Six n) : isNum (wordI n) = true := by
  have e := tl_wordI h
  have l6 := len_wordI h
  have hne := TL.numL_ne n.toNat
  have l1 : 1 ≤ (tl (wordI n)).length := by
    rw [e]
    cases hh : TL.numL n.toNat with
    | nil => exact absurd hh hne
    | cons c r => simp
  have hd : (tl (wordI n)).all isDig = true := List.all_eq_true.mpr fun c hc => by
    have := dig_wordI h c hc
    simp [isDig, this]
  have hz : zeroAhead (wordI n) = false := by
    unfold zeroAhead
    by_cases h10 : n.toNat < 10
    · have : ¬ 1 < (wordI n).length := by
        rw [len_tl, e, TL.numL_lt h10]
        simp
      rw [decide_eq_false this]
      rfl
    · rw [e, decide_eq_false (numL_head n.toNat (by omega)), Bool.and_false]
  unfold isNum
  rw [len_tl, decide_eq_true l1, decide_eq_true l6, hd, hz]
  rfl
theorem numW_wordI {n : Int} (h : Six n) : numW (wordI n) = some n := by
  unfold numW
  rw [if_pos (isNum_wordI h)]
  have e : n = ((n.toNat : Nat) : Int) := by have := h.1; omega
  have l := len_wordI h
  rw [tl_wordI h] at l
  have := TL.int_num (n := n.toNat) (by omega)
  rw [← e] at this
  exact this
theorem allW_map {α β : Type} {f : β → Option α} {g : α → β} : ∀ {l : List α}, (∀ a ∈ l, f (g a) = some a) → allW f (l.map g) = some l
  | [], _ => rfl
  | a :: l, h => by
    show (f (g a)).bind (fun b => (allW f (l.map g)).map (b :: ·)) = _
    rw [h a (by simp), allW_map fun b hb => h b (by simp [hb])]
    rfl
theorem split_back {b : Str} {s : Nat} (hb : tl b = [s]) (hs : s < 256) {parts : List Str} (hne : parts ≠ []) (hp : ∀ p ∈ parts, s ∉ tl p) : Txt.split (Txt.join b parts) b = parts :=
  TL.split_join (s := s) (S := []) hb (by
    have : b.cps.toList.all (· < 256) = true := by
      show (tl b).all (· < 256) = true
      rw [hb]
      simp [hs]
    simpa using this) hne hp
theorem wordI_free {n : Int} {s : Nat} (h : Six n) (hs : s < 48 ∨ 57 < s) : s ∉ tl (wordI n) := fun hm => by
  have := dig_wordI h s hm
  omega
theorem wt_words : ∀ {ns : List Int}, (∀ n ∈ ns, Six n) → wt (ns.map wordI) ≤ 7 * ns.length
  | [], _ => by simp [wt]
  | n :: ns, h => by
    have ih := wt_words (ns := ns) fun m hm => h m (by simp [hm])
    have := (ok_wordI (h n (by simp))).l
    rw [List.map_cons, wt_cons, List.length_cons]
    omega
theorem strD_ok {n : Int} (h : Six n) : strD [.int n] = some (.str (wordI n)) := by
  have : n.natAbs.log2 < 1920 := by
    have h1 : n.natAbs < 2 ^ 20 := by have := h.1; have := h.2; omega
    by_cases h0 : n.natAbs = 0
    · rw [h0]; decide
    · have := (Nat.log2_lt h0).mpr h1
      omega
  exact if_pos this
theorem Atoms.six {ns : List Int} (h : Atoms ns) : ∀ n ∈ ns, Six n := fun n hn => by
  have := h.b n hn
  exact ⟨this.1, by omega⟩
theorem lc_str {ns : List Int} {x0 : DE} {r : DEnv} (h : ∀ n ∈ ns, Six n) : lcL (gN 1) mYes (mCall strD (mCons (mVar 1) mNil)) (x0 :: .un :: r) (ns.map D.int) = some ((ns.map wordI).map D.str) := by
  rw [lc_call (t := D.int) (g := fun n => D.str (wordI n)) (fun d => by simp) fun n hn => strD_ok (h n hn), List.map_map]
  rfl
def kwords (k : Kind) : List Str := [k.1] ++ (":" : Str) :: (k.2.1.map wordI ++ (":" : Str) :: k.2.2.map wordI)
theorem add_lst {xs ys : List D} (h : xs.length + ys.length ≤ 1000) : addD (.lst xs) (.lst ys) = some (.lst (xs ++ ys)) := if_pos (by rw [big_eq]; omega)
theorem kwords_map (k : Kind) : (kwords k).map D.str = (([D.str k.1, D.str ":"] ++ (k.2.1.map wordI).map D.str) ++ [D.str ":"]) ++ (k.2.2.map wordI).map D.str := by
  unfold kwords
  simp
theorem F_lawKindWords_ok {k : Kind} (h : KindOk k) : F__law_kind_words [kindD k] = some (.lst ((kwords k).map .str)) := by
  refine F_of rfl ?_
  show m__law_kind_words [.pu (kindD k), .un] = _
  unfold m__law_kind_words
  have l1 := h.n.l
  have l2 := h.b.l
  have i0 : mOp ixD (mVar 0) (mC (.int 0)) [.pu (kindD k), .un] = some (.str k.1) := (ev_op rfl rfl).trans ix0t
  have i1 : mOp ixD (mVar 0) (mC (.int 1)) [.pu (kindD k), .un] = some (tupI k.2.1) := (ev_op rfl rfl).trans ix1t
  have i2 : mOp ixD (mVar 0) (mC (.int 2)) [.pu (kindD k), .un] = some (tupI k.2.2) := (ev_op rfl rfl).trans ix2t
  have e1 : mLst (mLc (mItems (mOp ixD (mVar 0) (mC (.int 1)))) (gN 1) mYes (mCall strD (mCons (mVar 1) mNil)) [1]) [.pu (kindD k), .un] = some (.lst ((k.2.1.map wordI).map .str)) := by
    refine ev_lst ?_
    rw [ev_lc (ds := k.2.1.map D.int) (by rw [e_items, i1]; rfl) (by rw [List.length_map]; omega)]
    exact lc_str h.n.six
  have e2 : mLst (mLc (mItems (mOp ixD (mVar 0) (mC (.int 2)))) (gN 1) mYes (mCall strD (mCons (mVar 1) mNil)) [1]) [.pu (kindD k), .un] = some (.lst ((k.2.2.map wordI).map .str)) := by
    refine ev_lst ?_
    rw [ev_lc (ds := k.2.2.map D.int) (by rw [e_items, i2]; rfl) (by rw [List.length_map]; omega)]
    exact lc_str h.b.six
  have e0 : mLst (few (mCons (mOp ixD (mVar 0) (mC (.int 0))) (mCons (mC (.str ":")) mNil))) [.pu (kindD k), .un] = some (.lst [.str k.1, .str ":"]) := by
    refine ev_lst ?_
    rw [e_few, ev_cons i0 (ev_cons rfl rfl)]
    rfl
  have a1 := (ev_op (f := addD) e0 e1).trans (add_lst (by simp; omega))
  have a2 := (ev_op (f := addD) a1 (rfl : mLst (few (mCons (mC (.str ":")) mNil)) [.pu (kindD k), .un] = some (.lst [.str ":"]))).trans (add_lst (by simp; omega))
  have a3 := (ev_op (f := addD) a2 e2).trans (add_lst (by simp; omega))
  rw [ev_ret a3, kwords_map]
theorem F_atomWords_ok {ns : List Int} (h : Atoms ns) : F_atom_words [tupI ns] = some (.lst ((ns.map wordI).map .str)) := by
  refine F_of rfl (ev_ret (ev_lst ?_))
  show mLc (mItems (mVar 0)) (gN 1) mYes (mCall strD (mCons (mVar 1) mNil)) [1] [.pu (tupI ns), .un] = _
  rw [ev_lc (ds := ns.map D.int) rfl (by rw [List.length_map]; have := h.l; omega)]
  exact lc_str h.six
theorem F_kindWords_ok {k : Kind} (h : KindOk k) : F_kind_words [kindD k] = some (.lst ((kwords k).map .str)) := by
  refine F_of rfl ?_
  show m_kind_words [.pu (kindD k), .un, .un, .un] = _
  unfold m_kind_words
  have l1 := h.n.l
  have l2 := h.b.l
  have s1 : mAsgG (gT [1, 2, 3]) (mVar 0) [.pu (kindD k), .un, .un, .un] = some (.nx [.pu (kindD k), .pu (.str k.1), .pu (tupI k.2.1), .pu (tupI k.2.2)]) := rfl
  refine (ev_seq s1).trans ?_
  have e1 : mCall F_atom_words (mCons (mVar 2) mNil) [.pu (kindD k), .pu (.str k.1), .pu (tupI k.2.1), .pu (tupI k.2.2)] = _ := (ev_call (ev_cons rfl rfl)).trans (F_atomWords_ok h.n)
  have e2 : mCall F_atom_words (mCons (mVar 3) mNil) [.pu (kindD k), .pu (.str k.1), .pu (tupI k.2.1), .pu (tupI k.2.2)] = _ := (ev_call (ev_cons rfl rfl)).trans (F_atomWords_ok h.b)
  have e0 : mLst (few (mCons (mVar 1) (mCons (mC (.str ":")) mNil))) [.pu (kindD k), .pu (.str k.1), .pu (tupI k.2.1), .pu (tupI k.2.2)] = some (.lst [.str k.1, .str ":"]) := rfl
  have a1 := (ev_op (f := addD) e0 e1).trans (add_lst (by simp; omega))
  have a2 := (ev_op (f := addD) a1 (rfl : mLst (few (mCons (mC (.str ":")) mNil)) [.pu (kindD k), .pu (.str k.1), .pu (tupI k.2.1), .pu (tupI k.2.2)] = some (.lst [.str ":"]))).trans (add_lst (by simp; omega))
  have a3 := (ev_op (f := addD) a2 e2).trans (add_lst (by simp; omega))
  rw [ev_ret a3, kwords_map]
/-! ### texts -/
theorem lab_len {z : Str} (h : isLab z = true) : z.length ≤ 8 := (wl_of h).b
theorem lab_sign {z : Str} (h : isLab z = true) : ∀ c ∈ tl z, 97 ≤ c ∧ c ≤ 122 := fun c hc => by
  have := List.all_eq_true.mp (wl_of h).c c hc
  simpa [isLet] using this
theorem tl_colon : tl ":" = [58] := by decide
theorem kword_sign {k : Kind} (h : KindOk k) : ∀ y ∈ kwords k, y.length ≤ 8 ∧ ∀ c ∈ tl y, 48 ≤ c ∧ c ≤ 122 := fun y hy => by
  unfold kwords at hy
  have hd : ∀ ns : List Int, Atoms ns → y ∈ ns.map wordI → y.length ≤ 8 ∧ ∀ c ∈ tl y, 48 ≤ c ∧ c ≤ 122 := fun ns ha hm => by
    obtain ⟨n, hn, rfl⟩ := List.mem_map.mp hm
    have hs := ha.six n hn
    refine ⟨by have := (ok_wordI hs).l; omega, fun c hc => ?_⟩
    have := dig_wordI hs c hc
    omega
  have hc : y = ":" → y.length ≤ 8 ∧ ∀ c ∈ tl y, 48 ≤ c ∧ c ≤ 122 := fun e => by
    subst e
    refine ⟨by decide, fun c hc => ?_⟩
    rw [tl_colon] at hc
    simp at hc
    omega
  simp only [List.mem_append, List.mem_cons, List.mem_singleton, List.not_mem_nil, or_false] at hy
  rcases hy with rfl | h2 | h3 | h4 | h5
  · refine ⟨lab_len h.l, fun c hc => ?_⟩
    have := lab_sign h.l c hc
    omega
  · exact hc h2
  · exact hd _ h.n h3
  · exact hc h4
  · exact hd _ h.b h5
theorem wt_le {n : Nat} : ∀ ys : List Str, (∀ y ∈ ys, y.length ≤ n) → wt ys ≤ (n + 1) * ys.length
  | [], _ => by simp [wt]
  | y :: ys, h => by
    have ih := wt_le ys fun z hz => h z (List.mem_cons_of_mem _ hz)
    have := h y List.mem_cons_self
    rw [wt_cons, List.length_cons, Nat.mul_succ]
    omega
theorem kwords_len {k : Kind} (h : KindOk k) : (kwords k).length ≤ 17 := by
  have l1 := h.n.l
  have l2 := h.b.l
  unfold kwords
  simp
  omega
theorem len_small {n : Int} (h : 0 ≤ n ∧ n ≤ 36) : (wordI n).length ≤ 2 := by
  rw [len_tl, tl_wordI ⟨h.1, by omega⟩]
  exact TL.numL_len (by decide) (by have := h.2; have := h.1; omega)
theorem wt_atoms {ns : List Int} (h : Atoms ns) : wt (ns.map wordI) ≤ 21 := by
  have := wt_le (n := 2) (ns.map wordI) fun y hy => by
    obtain ⟨n, hn, rfl⟩ := List.mem_map.mp hy
    exact len_small (h.b n hn)
  rw [List.length_map] at this
  have := h.l
  omega
theorem wt_kwords {k : Kind} (h : KindOk k) : wt (kwords k) ≤ 55 := by
  have w1 := wt_atoms h.n
  have w2 := wt_atoms h.b
  have w3 := lab_len h.l
  have e : kwords k = k.1 :: (":" : Str) :: (k.2.1.map wordI ++ (":" : Str) :: k.2.2.map wordI) := rfl
  rw [e, wt_cons, wt_cons, wt_append, wt_cons, show (":" : Str).length = 1 by decide]
  omega
def ktext (k : Kind) : Str := Txt.join " " (kwords k)
theorem ok_ktext {k : Kind} (h : KindOk k) : Ok 55 (ktext k) := Ok.join tl_sp (by decide) (wt_kwords h) fun y hy c hc => by
  have := (kword_sign h y hy).2 c hc
  omega
theorem ktext_sign {k : Kind} (h : KindOk k) : ∀ c ∈ tl (ktext k), c = 32 ∨ (48 ≤ c ∧ c ≤ 122) := fun c hc => by
  unfold ktext at hc
  rw [tl_join, tl_sp] at hc
  rcases joinL_mem hc with hm | ⟨p, h1, h2⟩
  · exact .inl (by simpa using hm)
  · obtain ⟨y, hy, rfl⟩ := List.mem_map.mp h1
    exact .inr ((kword_sign h y hy).2 c h2)
def ltext (ks : List Kind) : Str := Txt.join "\n" (ks.map ktext)
theorem wt_ktexts {ks : List Kind} (h : ∀ k ∈ ks, KindOk k) : wt (ks.map ktext) ≤ 56 * ks.length := by
  have := wt_le (n := 55) (ks.map ktext) fun y hy => by
    obtain ⟨k, hk, rfl⟩ := List.mem_map.mp hy
    exact (ok_ktext (h k hk)).l
  rwa [List.length_map] at this
theorem ok_ltext {ks : List Kind} (h : ∀ k ∈ ks, KindOk k) (hl : ks.length ≤ 12) : Ok 1000 (ltext ks) := Ok.join tl_nl (by decide) (by have := wt_ktexts h; omega) fun y hy => by
  obtain ⟨k, hk, rfl⟩ := List.mem_map.mp hy
  exact (ok_ktext (h k hk)).c
theorem join_ok {b : Str} {s : Nat} {ys : List Str} (hb : tl b = [s]) (hw : wt ys ≤ 100000) : joinD (.str b) [.lst (ys.map D.str)] = some (.str (Txt.join b ys)) := by
  show (strsD (ys.map D.str)).bind (fun ys => if (ys.map (·.length)).sum + ys.length * b.length ≤ big then some (D.str (Txt.join b ys)) else none) = _
  rw [strsD_map]
  refine if_pos ?_
  rw [len_tl b, hb]
  show (ys.map (·.length)).sum + ys.length * 1 ≤ big
  rw [wt_sum, big_eq]
  omega
theorem joinM_ok {b : Str} {s : Nat} {ys : List Str} (hb : tl b = [s]) (hw : wt ys ≤ 100000) (h2 : 2 ≤ ys.length) : joinMD (.str b) [.lst (ys.map D.str)] = some (.str (Txt.join b ys)) := by
  show (strsD (ys.map D.str)).bind (fun ys => if 2 ≤ ys.length ∧ (ys.map (·.length)).sum + ys.length * b.length ≤ big then some (D.str (Txt.join b ys)) else none) = _
  rw [strsD_map]
  refine if_pos ⟨h2, ?_⟩
  rw [len_tl b, hb]
  show (ys.map (·.length)).sum + ys.length * 1 ≤ big
  rw [wt_sum, big_eq]
  omega
theorem kwords_two (k : Kind) : 2 ≤ (kwords k).length := by
  unfold kwords
  simp
end KN

set_option Elab.async false
set_option linter.all false
set_option maxRecDepth 100000
set_option maxHeartbeats 4000000
namespace KN
open PySem PySem.Spec PyProof.Rows L2 Evl DD PySem.W
/-! T7: the words and texts of rows -/
def wwords : Wt → List Str
  | none => dashW
  | some w => w.1.map wordI ++ (("/" : Str) :: w.2.map wordI)
theorem wwords_map (w : List Int × List Int) : (wwords (some w)).map D.str = ((w.1.map wordI).map D.str ++ [D.str "/"]) ++ (w.2.map wordI).map D.str := by
  unfold wwords
  simp
theorem F_lawWw_ok {w : Wt} (h : WtOk w) : F__law_waiting_words [wtD w] = some (.lst ((wwords w).map .str)) := by
  refine F_of rfl ?_
  show m__law_waiting_words [.pu (wtD w), .un] = _
  unfold m__law_waiting_words
  cases w with
  | none => rfl
  | some w =>
    obtain ⟨ha, hb⟩ := h w rfl
    have l1 := ha.l
    have l2 := hb.l
    have c : mTest (mOp isND (mVar 0) (mC .non)) [.pu (wtD (some w)), .un] = some false := rfl
    rw [ev_seq ((ev_ifS_f c).trans rfl)]
    have i0 : mOp ixD (mVar 0) (mC (.int 0)) [.pu (wtD (some w)), .un] = some (tupI w.1) := (ev_op rfl rfl).trans ix0t
    have i1 : mOp ixD (mVar 0) (mC (.int 1)) [.pu (wtD (some w)), .un] = some (tupI w.2) := (ev_op rfl rfl).trans ix1t
    have e1 : mLst (mLc (mItems (mOp ixD (mVar 0) (mC (.int 0)))) (gN 1) mYes (mCall strD (mCons (mVar 1) mNil)) [1]) [.pu (wtD (some w)), .un] = some (.lst ((w.1.map wordI).map .str)) := by
      refine ev_lst ?_
      rw [ev_lc (ds := w.1.map D.int) (by rw [e_items, i0]; rfl) (by rw [List.length_map]; omega)]
      exact lc_str ha.six
    have e2 : mLst (mLc (mItems (mOp ixD (mVar 0) (mC (.int 1)))) (gN 1) mYes (mCall strD (mCons (mVar 1) mNil)) [1]) [.pu (wtD (some w)), .un] = some (.lst ((w.2.map wordI).map .str)) := by
      refine ev_lst ?_
      rw [ev_lc (ds := w.2.map D.int) (by rw [e_items, i1]; rfl) (by rw [List.length_map]; omega)]
      exact lc_str hb.six
    have a1 := (ev_op (f := addD) e1 (rfl : mLst (few (mCons (mC (.str "/")) mNil)) [.pu (wtD (some w)), .un] = some (.lst [.str "/"]))).trans (add_lst (by simp; omega))
    have a2 := (ev_op (f := addD) a1 e2).trans (add_lst (by simp; omega))
    rw [ev_ret a2, wwords_map]
theorem F_ww_ok {w : Wt} (h : WtOk w) : F_waiting_words [wtD w] = some (.lst ((wwords w).map .str)) := by
  refine F_of rfl ?_
  show m_waiting_words [.pu (wtD w), .un, .un] = _
  unfold m_waiting_words
  cases w with
  | none => rfl
  | some w =>
    obtain ⟨ha, hb⟩ := h w rfl
    have l1 := ha.l
    have l2 := hb.l
    have c : mTest (mOp isND (mVar 0) (mC .non)) [.pu (wtD (some w)), .un, .un] = some false := rfl
    rw [ev_seq ((ev_ifS_f c).trans rfl)]
    have s1 : mAsgG (gT [1, 2]) (mVar 0) [.pu (wtD (some w)), .un, .un] = some (.nx [.pu (wtD (some w)), .pu (tupI w.1), .pu (tupI w.2)]) := rfl
    refine (ev_seq s1).trans ?_
    have e1 : mCall F_atom_words (mCons (mVar 1) mNil) [.pu (wtD (some w)), .pu (tupI w.1), .pu (tupI w.2)] = _ := (ev_call (ev_cons rfl rfl)).trans (F_atomWords_ok ha)
    have e2 : mCall F_atom_words (mCons (mVar 2) mNil) [.pu (wtD (some w)), .pu (tupI w.1), .pu (tupI w.2)] = _ := (ev_call (ev_cons rfl rfl)).trans (F_atomWords_ok hb)
    have a1 := (ev_op (f := addD) e1 (rfl : mLst (few (mCons (mC (.str "/")) mNil)) [.pu (wtD (some w)), .pu (tupI w.1), .pu (tupI w.2)] = some (.lst [.str "/"]))).trans (add_lst (by simp; omega))
    have a2 := (ev_op (f := addD) a1 e2).trans (add_lst (by simp; omega))
    rw [ev_ret a2, wwords_map]
/-! signs and lengths -/
theorem tl_dash : tl "-" = [45] := by decide
theorem tl_slash : tl "/" = [47] := by decide
theorem tl_semi : tl ";" = [59] := by decide
theorem atom_sign {ns : List Int} (h : Atoms ns) : ∀ y ∈ ns.map wordI, y.length ≤ 8 ∧ ∀ c ∈ tl y, 48 ≤ c ∧ c ≤ 57 := fun y hy => by
  obtain ⟨n, hn, rfl⟩ := List.mem_map.mp hy
  have hs := h.six n hn
  exact ⟨by have := (ok_wordI hs).l; omega, dig_wordI hs⟩
theorem ww_sign {w : Wt} (h : WtOk w) : ∀ y ∈ wwords w, y.length ≤ 8 ∧ ∀ c ∈ tl y, 45 ≤ c ∧ c ≤ 57 := fun y hy => by
  cases w with
  | none =>
    have : y = "-" := List.mem_singleton.mp hy
    subst this
    refine ⟨by decide, fun c hc => ?_⟩
    rw [tl_dash] at hc
    simp at hc
    omega
  | some w =>
    obtain ⟨ha, hb⟩ := h w rfl
    rcases List.mem_append.mp hy with hy | hy
    · obtain ⟨p1, p2⟩ := atom_sign ha y hy
      exact ⟨p1, fun c hc => by have := p2 c hc; omega⟩
    · rcases List.mem_cons.mp hy with rfl | hy
      · refine ⟨by decide, fun c hc => ?_⟩
        rw [tl_slash] at hc
        simp at hc
        omega
      · obtain ⟨p1, p2⟩ := atom_sign hb y hy
        exact ⟨p1, fun c hc => by have := p2 c hc; omega⟩
theorem wt_ww {w : Wt} (h : WtOk w) : wt (wwords w) ≤ 44 := by
  cases w with
  | none => decide +kernel
  | some w =>
    obtain ⟨ha, hb⟩ := h w rfl
    have w1 := wt_atoms ha
    have w2 := wt_atoms hb
    unfold wwords
    rw [wt_append, wt_cons, show ("/" : Str).length = 1 by decide]
    omega
theorem ww_len {w : Wt} (h : WtOk w) : (wwords w).length ≤ 15 := by
  cases w with
  | none => decide
  | some w =>
    obtain ⟨ha, hb⟩ := h w rfl
    have l1 := ha.l
    have l2 := hb.l
    unfold wwords
    simp
    omega
def rwords (r : Row) : List Str := kwords r.1 ++ (";" : Str) :: (wwords r.2.1 ++ (";" : Str) :: wwords r.2.2)
theorem rwords_map (r : Row) : (rwords r).map D.str = ((((kwords r.1).map D.str ++ [D.str ";"]) ++ (wwords r.2.1).map D.str) ++ [D.str ";"]) ++ (wwords r.2.2).map D.str := by
  unfold rwords
  simp
theorem wt_rwords {r : Row} (h : RowOk r) : wt (rwords r) ≤ 147 := by
  have w1 := wt_kwords h.k
  have w2 := wt_ww h.f
  have w3 := wt_ww h.s
  unfold rwords
  rw [wt_append, wt_cons, wt_append, wt_cons, show (";" : Str).length = 1 by decide]
  omega
theorem rw_sign {r : Row} (h : RowOk r) : ∀ y ∈ rwords r, ∀ c ∈ tl y, 45 ≤ c ∧ c ≤ 122 := fun y hy c hc => by
  have semi : y = (";" : Str) → 45 ≤ c ∧ c ≤ 122 := fun e => by
    subst e
    rw [tl_semi] at hc
    simp at hc
    omega
  rcases List.mem_append.mp hy with hy | hy
  · have := (kword_sign h.k y hy).2 c hc
    omega
  · rcases List.mem_cons.mp hy with hy | hy
    · exact semi hy
    · rcases List.mem_append.mp hy with hy | hy
      · have := (ww_sign h.f y hy).2 c hc
        omega
      · rcases List.mem_cons.mp hy with hy | hy
        · exact semi hy
        · have := (ww_sign h.s y hy).2 c hc
          omega
def rtext (r : Row) : Str := Txt.join " " (rwords r)
theorem ok_rtext {r : Row} (h : RowOk r) : Ok 147 (rtext r) := Ok.join tl_sp (by decide) (wt_rwords h) fun y hy c hc => by
  have := rw_sign h y hy c hc
  omega
theorem rtext_sign {r : Row} (h : RowOk r) : ∀ c ∈ tl (rtext r), c = 32 ∨ (45 ≤ c ∧ c ≤ 122) := fun c hc => by
  unfold rtext at hc
  rw [tl_join, tl_sp] at hc
  rcases joinL_mem hc with hm | ⟨p, h1, h2⟩
  · exact .inl (by simpa using hm)
  · obtain ⟨y, hy, rfl⟩ := List.mem_map.mp h1
    exact .inr (rw_sign h y hy c h2)
theorem rwords_two (r : Row) : 2 ≤ (rwords r).length := by
  unfold rwords
  simp
  omega
theorem F_rowText_ok {r : Row} (h : RowOk r) : F_row_text [rowD r] = some (.str (rtext r)) := by
  refine F_of rfl ?_
  show m_row_text [.pu (rowD r), .un, .un, .un] = _
  unfold m_row_text
  have l0 := kwords_len h.k
  have l1 := ww_len h.f
  have l2 := ww_len h.s
  have s1 : mAsgG (gT [1, 2, 3]) (mVar 0) [.pu (rowD r), .un, .un, .un] = some (.nx [.pu (rowD r), .pu (kindD r.1), .pu (wtD r.2.1), .pu (wtD r.2.2)]) := rfl
  refine (ev_seq s1).trans (ev_ret ?_)
  have e0 : mCall F_kind_words (mCons (mVar 1) mNil) [.pu (rowD r), .pu (kindD r.1), .pu (wtD r.2.1), .pu (wtD r.2.2)] = _ := (ev_call (ev_cons rfl rfl)).trans (F_kindWords_ok h.k)
  have e1 : mCall F_waiting_words (mCons (mVar 2) mNil) [.pu (rowD r), .pu (kindD r.1), .pu (wtD r.2.1), .pu (wtD r.2.2)] = _ := (ev_call (ev_cons rfl rfl)).trans (F_ww_ok h.f)
  have e2 : mCall F_waiting_words (mCons (mVar 3) mNil) [.pu (rowD r), .pu (kindD r.1), .pu (wtD r.2.1), .pu (wtD r.2.2)] = _ := (ev_call (ev_cons rfl rfl)).trans (F_ww_ok h.s)
  have es : mLst (few (mCons (mC (.str ";")) mNil)) [.pu (rowD r), .pu (kindD r.1), .pu (wtD r.2.1), .pu (wtD r.2.2)] = some (.lst [.str ";"]) := rfl
  have a1 := (ev_op (f := addD) e0 es).trans (add_lst (by simp; omega))
  have a2 := (ev_op (f := addD) a1 e1).trans (add_lst (by simp; omega))
  have a3 := (ev_op (f := addD) a2 es).trans (add_lst (by simp; omega))
  have a4 := (ev_op (f := addD) a3 e2).trans (add_lst (by simp; omega))
  rw [← rwords_map] at a4
  exact (ev_meth rfl (ev_cons a4 rfl)).trans (join_ok tl_sp (by have := wt_rwords h; omega))
theorem addK_lst {xs ys : List D} (h : xs.length + ys.length ≤ 1000) : addK (.lst xs) (.lst ys) = some (.lst (xs ++ ys)) := if_pos (by rw [big_eq]; omega)
theorem F_lawRowText_ok {r : Row} (h : RowOk r) : F__law_row_text [rowD r] = some (.str (rtext r)) := by
  refine F_of rfl ?_
  show m__law_row_text [.pu (rowD r)] = _
  unfold m__law_row_text
  have l0 := kwords_len h.k
  have l1 := ww_len h.f
  have l2 := ww_len h.s
  refine ev_ret ?_
  have i0 : mOp ixD (mVar 0) (mC (.int 0)) [.pu (rowD r)] = some (kindD r.1) := (ev_op rfl rfl).trans ix0t
  have i1 : mOp ixD (mVar 0) (mC (.int 1)) [.pu (rowD r)] = some (wtD r.2.1) := (ev_op rfl rfl).trans ix1t
  have i2 : mOp ixD (mVar 0) (mC (.int 2)) [.pu (rowD r)] = some (wtD r.2.2) := (ev_op rfl rfl).trans ix2t
  have e0 : mCall F__law_kind_words (mCons (mOp ixD (mVar 0) (mC (.int 0))) mNil) [.pu (rowD r)] = _ := (ev_call (ev_cons i0 rfl)).trans (F_lawKindWords_ok h.k)
  have e1 : mCall F__law_waiting_words (mCons (mOp ixD (mVar 0) (mC (.int 1))) mNil) [.pu (rowD r)] = _ := (ev_call (ev_cons i1 rfl)).trans (F_lawWw_ok h.f)
  have e2 : mCall F__law_waiting_words (mCons (mOp ixD (mVar 0) (mC (.int 2))) mNil) [.pu (rowD r)] = _ := (ev_call (ev_cons i2 rfl)).trans (F_lawWw_ok h.s)
  have es : mLst (few (mCons (mC (.str ";")) mNil)) [.pu (rowD r)] = some (.lst [.str ";"]) := rfl
  have a1 := (ev_op (f := addK) e0 es).trans (addK_lst (by simp; omega))
  have a2 := (ev_op (f := addK) a1 e1).trans (addK_lst (by simp; omega))
  have a3 := (ev_op (f := addK) a2 es).trans (addK_lst (by simp; omega))
  have a4 := (ev_op (f := addK) a3 e2).trans (addK_lst (by simp; omega))
  rw [← rwords_map] at a4
  exact (ev_meth rfl (ev_cons a4 rfl)).trans (joinM_ok tl_sp (by have := wt_rwords h; omega) (rwords_two r))
def ttext (rs : List Row) : Str := Txt.join "\n" (rs.map rtext)
theorem wt_rtexts {rs : List Row} (h : ∀ r ∈ rs, RowOk r) : wt (rs.map rtext) ≤ 148 * rs.length := by
  have := wt_le (n := 147) (rs.map rtext) fun y hy => by
    obtain ⟨r, hr, rfl⟩ := List.mem_map.mp hy
    exact (ok_rtext (h r hr)).l
  rwa [List.length_map] at this
theorem ok_ttext {rs : List Row} (h : ∀ r ∈ rs, RowOk r) (hl : rs.length ≤ 6) : Ok 1000 (ttext rs) := Ok.join tl_nl (by decide) (by have := wt_rtexts h; omega) fun y hy => by
  obtain ⟨r, hr, rfl⟩ := List.mem_map.mp hy
  exact (ok_rtext (h r hr)).c
theorem F_showTable_ok {rs : List Row} (h : ∀ r ∈ rs, RowOk r) (hl : rs.length ≤ 6) : F_show_table [.lst (rs.map rowD)] = some (.str (ttext rs)) := by
  refine F_of rfl (ev_ret ?_)
  have e1 : mLc (mItems (mVar 0)) (gN 1) mYes (mCall F_row_text (mCons (mVar 1) mNil)) [1] [.pu (.lst (rs.map rowD)), .un] = some ((rs.map rtext).map D.str) := by
    rw [ev_lc (ds := rs.map rowD) rfl (by rw [List.length_map]; omega)]
    have := lc_call (t := rowD) (F := F_row_text) (k := 1) (ρ := [.pu (.lst (rs.map rowD)), .un]) (g := fun r => D.str (rtext r)) (fun d => by simp) (l := rs) fun r hr => F_rowText_ok (h r hr)
    rw [List.map_map]
    exact this
  exact (ev_meth rfl (ev_cons (ev_lst e1) rfl)).trans (join_ok tl_nl (by have := wt_rtexts h; omega))
end KN

set_option Elab.async false
set_option linter.all false
set_option maxRecDepth 100000
set_option maxHeartbeats 4000000
namespace KN
open PySem PySem.Spec PyProof.Rows L2 Evl DD PySem.W
/-! N20: read back; what is the same -/
theorem atoms_back {ns : List Int} (h : Atoms ns) : atomsW (ns.map wordI) = some ns := by
  unfold atomsW intsW
  rw [allW_map fun n hn => numW_wordI (h.six n hn), Option.bind_some, if_pos h.r]
theorem colon_lab {z : Str} (h : isLab z = true) : z ≠ ":" := fun e => by
  subst e
  exact absurd h (by decide +kernel)
theorem colon_atoms {ns : List Int} (h : Atoms ns) : (":" : Str) ∉ ns.map wordI := fun hm => by
  obtain ⟨n, hn, e⟩ := List.mem_map.mp hm
  have := dig_wordI (h.six n hn) 58 (by rw [e, tl_colon]; simp)
  omega
theorem kindW_back {k : Kind} (h : KindOk k) : kindW (kwords k) = some k := by
  have hp : partsW ":" (kwords k) = [[k.1], k.2.1.map wordI, k.2.2.map wordI] := by
    unfold kwords
    rw [partsW_cut (by
      rw [List.mem_singleton]
      exact fun e => colon_lab h.l e.symm), partsW_cut (colon_atoms h.n), partsW_none (colon_atoms h.b)]
  unfold kindW
  rw [hp]
  dsimp only
  rw [if_pos h.l, atoms_back h.n, atoms_back h.b]
  rfl
theorem kwords_ne (k : Kind) : kwords k ≠ [] := by
  have := kwords_two k
  intro e
  rw [e] at this
  simp at this
theorem split_ktext {k : Kind} (h : KindOk k) : Txt.split (ktext k) " " = kwords k := split_back tl_sp (by decide) (kwords_ne k) fun y hy hm => by
  have := (kword_sign h y hy).2 32 hm
  omega
theorem runL_back {α : Type} {g : Str → Option α} {f : α → Str} : ∀ {l : List α} {i : Nat}, (∀ a ∈ l, g (f a) = some a) → runL g i (l.map f) = .ok l
  | [], _, _ => rfl
  | a :: l, i, h => by
    rw [List.map_cons]
    unfold runL
    rw [h a List.mem_cons_self, runL_back (i := i + 1) fun b hb => h b (List.mem_cons_of_mem _ hb)]
/-! ### the same -/
def Same (d : D) : Prop := ∃ p, pd d = some p ∧ PyData.eqv p p = true ∧ p.depth ≤ 180
theorem ne_same {d : D} (h : Same d) : neP d d = some (.bl false) := by
  obtain ⟨p, e, h1, h2⟩ := h
  unfold neP
  rw [e]
  simp only [Option.bind_some]
  rw [if_pos (by unfold fitP; exact decide_eq_true (by omega)), h1]
  rfl
theorem same_bad (n : Int) : Same (.tup [.str "bad", .int n]) := ⟨.tuple [.str "bad", .int n], rfl, by simp [PyData.eqv, PyData.eqvAll], by simp [PyData.depth, PyData.depthAll]⟩
theorem same_str (z : Str) : Same (.val (.str z)) := ⟨.str z, rfl, by simp [PyData.eqv], by simp [PyData.depth]⟩
theorem same_list {α : Type} {t : α → D} {p : α → PyData} (ht : ∀ a, pd (t a) = some (p a)) (he : ∀ a, PyData.eqv (p a) (p a) = true) (hd : ∀ a, (p a).depth ≤ 170) (as : List α) : Same (.lst (as.map t)) := by
  refine ⟨.list (as.map p), ?_, ?_, ?_⟩
  · show (pds (as.map t)).map PyData.list = _
    rw [pds_map ht]
    rfl
  · rw [PyData.eqv]
    induction as with
    | nil => rfl
    | cons a as ih => rw [List.map_cons, PyData.eqvAll, he, ih]; rfl
  · have : PyData.depthAll (as.map p) ≤ 170 := by
      induction as with
      | nil => simp [PyData.depthAll]
      | cons a as ih =>
        rw [List.map_cons, PyData.depthAll]
        have := hd a
        omega
    rw [PyData.depth]
    omega
theorem eqv_kind (k : Kind) : PyData.eqv (kindP k) (kindP k) = true := by
  simp [kindP, PyData.eqv, PyData.eqvAll, eqv_ints]
end KN

set_option Elab.async false
set_option linter.all false
set_option maxRecDepth 100000
set_option maxHeartbeats 4000000
namespace KN
open PySem PySem.Spec PyProof.Rows L2 Evl DD PySem.W
/-! T9: rows read back -/
theorem slash_atoms {ns : List Int} (h : Atoms ns) : ("/" : Str) ∉ ns.map wordI := fun hm => by
  have := (atom_sign h _ hm).2 47 (by rw [tl_slash]; simp)
  omega
theorem wtW_back {w : Wt} (h : WtOk w) : wtW (wwords w) = some w := by
  cases w with
  | none =>
    unfold wtW
    exact if_pos rfl
  | some w =>
    obtain ⟨ha, hb⟩ := h w rfl
    have hp : partsW "/" (wwords (some w)) = [w.1.map wordI, w.2.map wordI] := by
      unfold wwords
      rw [partsW_cut (slash_atoms ha), partsW_none (slash_atoms hb)]
    rw [wtW_two (zs := wwords (some w)) slash_dash hp, atoms_back ha, atoms_back hb]
    rfl
theorem semi_kwords {k : Kind} (h : KindOk k) : (";" : Str) ∉ kwords k := fun hm => by
  have hs : 59 ∈ tl ";" := by rw [tl_semi]; simp
  have hd : ∀ ns : List Int, Atoms ns → (";" : Str) ∉ ns.map wordI := fun ns ha hm => by
    have := (atom_sign ha _ hm).2 59 hs
    omega
  unfold kwords at hm
  rcases List.mem_append.mp hm with hm | hm
  · rw [List.mem_singleton] at hm
    have := lab_sign h.l 59 (by rw [← hm]; exact hs)
    omega
  · rcases List.mem_cons.mp hm with hm | hm
    · exact absurd hm (by decide)
    · rcases List.mem_append.mp hm with hm | hm
      · exact hd _ h.n hm
      · rcases List.mem_cons.mp hm with hm | hm
        · exact absurd hm (by decide)
        · exact hd _ h.b hm
theorem semi_ww {w : Wt} (h : WtOk w) : (";" : Str) ∉ wwords w := fun hm => by
  have := (ww_sign h _ hm).2 59 (by rw [tl_semi]; simp)
  omega
theorem rowW_back {r : Row} (h : RowOk r) : rowW (rwords r) = some r := by
  have hp : partsW ";" (rwords r) = [kwords r.1, wwords r.2.1, wwords r.2.2] := by
    unfold rwords
    rw [partsW_cut (semi_kwords h.k), partsW_cut (semi_ww h.f), partsW_none (semi_ww h.s)]
  rw [rowW_three hp, kindW_back h.k, wtW_back h.f, wtW_back h.s]
  rfl
theorem rwords_ne (r : Row) : rwords r ≠ [] := by
  have := rwords_two r
  intro e
  rw [e] at this
  simp at this
theorem split_rtext {r : Row} (h : RowOk r) : Txt.split (rtext r) " " = rwords r := split_back tl_sp (by decide) (rwords_ne r) fun y hy hm => by
  have := rw_sign h y hy 32 hm
  omega
theorem rowLn_back {r : Row} (h : RowOk r) : rowLn (rtext r) = some r := by
  unfold rowLn
  rw [split_rtext h, rowW_back h]
theorem split_ttext {rs : List Row} (h : ∀ r ∈ rs, RowOk r) (hne : rs ≠ []) : Txt.split (ttext rs) "\n" = rs.map rtext := split_back tl_nl (by decide) (by simpa using hne) fun y hy hm => by
  obtain ⟨r, hr, rfl⟩ := List.mem_map.mp hy
  have := rtext_sign (h r hr) 10 hm
  omega
theorem ttext_ne {rs : List Row} (h : ∀ r ∈ rs, RowOk r) (hne : rs ≠ []) : ttext rs ≠ "" := fun e => by
  have hs := split_ttext h hne
  have e2 : Txt.split "" "\n" = ([⟨#[]⟩] : List Str) := by decide +kernel
  rw [e, e2] at hs
  cases rs with
  | nil => exact hne rfl
  | cons r rs =>
    have e3 : (⟨#[]⟩ : Str) = rtext r := (List.cons.inj hs).1
    have h2 := split_rtext (h r List.mem_cons_self)
    have e4 : Txt.split (⟨#[]⟩ : Str) " " = ([⟨#[]⟩] : List Str) := by decide +kernel
    rw [← e3, e4] at h2
    have := rwords_two r
    rw [← h2] at this
    simp at this
theorem tableOut_back {rs : List Row} (h : ∀ r ∈ rs, RowOk r) (hr : (rs.map rowP).Pairwise fun a b => dataLt a b = true) : tableOut (ttext rs) = .ok rs := by
  have e : outA rowLn (ttext rs) = .ok rs := by
    unfold outA
    by_cases hne : rs = []
    · subst hne
      rw [if_pos (by rfl)]
    · rw [if_neg (ttext_ne h hne), split_ttext h hne, runL_back fun r hr => rowLn_back (h r hr)]
  unfold tableOut
  rw [e]
  dsimp only
  rw [fall_none _ _ hr]
def wtV : Wt → PyData
  | none => .none
  | some w => .tuple [.tuple (w.1.map .int), .tuple (w.2.map .int)]
def rowV (r : Row) : PyData := .tuple [kindP r.1, wtV r.2.1, wtV r.2.2]
theorem pd_wtV (w : Wt) : pd (wtD w) = some (wtV w) := by
  cases w with
  | none => rfl
  | some w =>
    show (((pd (tupI w.1)).bind fun q => (((pd (tupI w.2)).bind fun r => some [r]).map (q :: ·)))).map PyData.tuple = _
    rw [pd_tupI, pd_tupI]
    rfl
theorem pd_rowV (r : Row) : pd (rowD r) = some (rowV r) := by
  show ((pd (kindD r.1)).bind fun a => (((pd (wtD r.2.1)).bind fun b => (((pd (wtD r.2.2)).bind fun c => some [c]).map (b :: ·))).map (a :: ·))).map PyData.tuple = _
  rw [pd_kind, pd_wtV, pd_wtV]
  rfl
theorem eqv_wtV (w : Wt) : PyData.eqv (wtV w) (wtV w) = true := by
  cases w <;> simp [wtV, PyData.eqv, PyData.eqvAll, eqv_ints]
theorem eqv_rowV (r : Row) : PyData.eqv (rowV r) (rowV r) = true := by
  unfold rowV
  rw [PyData.eqv, PyData.eqvAll, PyData.eqvAll, PyData.eqvAll, PyData.eqvAll, eqv_kind, eqv_wtV, eqv_wtV]
  rfl
theorem depth_wtV (a : Wt) : (wtV a).depth ≤ 2 := by
  cases a <;> simp [wtV, PyData.depth, PyData.depthAll, depth_ints]
theorem depth_rowV (a : Row) : (rowV a).depth ≤ 170 := by
  have h1 := depth_wtV a.2.1
  have h2 := depth_wtV a.2.2
  have h3 := depth_kind a.1
  unfold rowV
  simp only [PyData.depth, PyData.depthAll]
  omega
theorem same_rows (rs : List Row) : Same (rowsD rs) := same_list pd_rowV eqv_rowV depth_rowV rs
theorem same_note (z : Str) : Same (noteX (outD rowsD (tableOut z))) := by
  cases tableOut z with
  | ok ks => exact same_rows ks
  | error n => exact same_bad _
end KN

set_option Elab.async false
set_option linter.all false
set_option maxRecDepth 100000
set_option maxHeartbeats 4000000
namespace KN
open PySem PySem.Spec PyProof.Rows L2 Evl DD PySem.W
/-! LA: the loops of law k88 -/
theorem for_invP {I : DEnv → Prop} {f : D → DEnv → Option DEnv} {body : MS} : ∀ {ds : List D}, (∀ d ∈ ds, ∀ ρ, I ρ → ∃ ρ1, f d ρ = some ρ1 ∧ ∃ ρ2, body ρ1 = some (.nx ρ2) ∧ I ρ2) → ∀ ρ, I ρ → ∃ ρ', forL f body ds ρ = some (.nx ρ') ∧ I ρ'
  | [], _, ρ, h => ⟨ρ, rfl, h⟩
  | d :: ds, hb, ρ, h => by
    obtain ⟨ρ1, e1, ρ2, e2, i2⟩ := hb d List.mem_cons_self ρ h
    obtain ⟨ρ', e3, i3⟩ := for_invP (ds := ds) (fun d hd => hb d (List.mem_cons_of_mem _ hd)) ρ2 i2
    exact ⟨ρ', (for_cons_nx e1 e2).trans e3, i3⟩
structure Fix (n : Nat) (l : List (Nat × D)) (ρ : DEnv) : Prop where
  n : ρ.length = n
  v : ∀ p ∈ l, mVar p.1 ρ = some p.2
theorem Fix.set {n : Nat} {l : List (Nat × D)} {ρ : DEnv} {j : Nat} {x : DE} (h : Fix n l ρ) (hj : ∀ p ∈ l, p.1 ≠ j := by decide) : Fix n l (ρ.set j x) := ⟨by rw [List.length_set]; exact h.n, fun p hp => by
  have := h.v p hp
  unfold mVar at this ⊢
  rw [List.getElem?_set_ne (Ne.symm (hj p hp))]
  exact this⟩
theorem Fix.add {n : Nat} {l : List (Nat × D)} {ρ : DEnv} {j : Nat} {d : D} (h : Fix n l ρ) (hl : j < n) (hj : ∀ p ∈ l, p.1 ≠ j) : Fix n ((j, d) :: l) (ρ.set j (.pu d)) := ⟨by rw [List.length_set]; exact h.n, fun p hp => by
  rcases List.mem_cons.mp hp with rfl | hp
  · show mVar j (ρ.set j (.pu d)) = some d
    unfold mVar
    rw [List.getElem?_set_self (by rw [h.n]; exact hl)]
  · exact (h.set (x := .pu d) hj).v p hp⟩
theorem Fix.sub {n : Nat} {l l' : List (Nat × D)} {ρ : DEnv} (h : Fix n l ρ) (hl : ∀ p ∈ l', p ∈ l) : Fix n l' ρ := ⟨h.n, fun p hp => h.v p (hl p hp)⟩
theorem small_of {n : Nat} {z : Str} (h : Ok n z) (hn : n ≤ 1000000) : small z := Nat.le_trans h.l hn
/-- the numbers of a turn -/
theorem cut3 {ns : List Int} {t : Nat} (hl : t + 3 ≤ ns.length) : ∃ (a b c : Int) (r : List D), DD.cutD (ns.map D.int) (some (t : Int)) none = .int a :: .int b :: .int c :: r := by
  have e : DD.cutD (ns.map D.int) (some (t : Int)) none = (ns.drop t).map D.int := by
    unfold DD.cutD
    rw [HT.sIx_nat, HT.sIx_none, List.length_map, Nat.min_eq_left (by omega), List.map_drop, List.take_of_length_le (by rw [List.length_drop, List.length_map]; exact Nat.le_refl _)]
  rw [e]
  have hd : 3 ≤ (ns.drop t).length := by
    rw [List.length_drop]
    omega
  match ns.drop t, hd with
  | a :: b :: c :: r, _ => exact ⟨a, b, c, r.map D.int, rfl⟩
section
variable {P : Program} {w : World} {C f : Addr} {Tb : Addr → Option (List D → Option D)}
/-- one text -/
theorem test_ok (hF : Tb f = some F_row_line) {z : Str} (hs : small z) (hc : okC z) {ρ : DEnv} (h8 : mVar 6 ρ = some (.str z)) :
    mIfS (mTest (mOp neP (mCall (F__law_note C f Tb) (mCons (mVar 6) mNil)) (mCall F__law_due (mCons (mVar 6) mNil)))) (mRet (mC (.bl false))) mNext ρ = some (.nx ρ) := by
  have e1 : mCall (F__law_note C f Tb) (mCons (mVar 6) mNil) ρ = some (noteX (outD rowsD (tableOut z))) := (ev_call (ev_cons h8 rfl)).trans (F_note_ok hF hs)
  have e2 : mCall F__law_due (mCons (mVar 6) mNil) ρ = some (noteX (outD rowsD (tableOut z))) := (ev_call (ev_cons h8 rfl)).trans (F_due_ok hs hc)
  have e3 := ev_test ((ev_op e1 e2).trans (ne_same (same_note z)))
  exact (ev_ifS_f e3).trans rfl
def pieceStrs : List Str := [":", " ", "0", "7", ";", "-", "/", " /", "a", "\n", "12", "; -"]
theorem pieces_ok : ∀ p ∈ pieceStrs, Ok 10 p := fun p hp => by
  have h : ∀ p ∈ pieceStrs, (tl p).length ≤ 10 ∧ (tl p).all (· < 1114112) = true := by decide +kernel
  obtain ⟨h1, h2⟩ := h p hp
  exact ⟨by rw [len_tl]; exact h1, fun c hc => by simpa using List.all_eq_true.mp h2 c hc⟩
abbrev mPcs : ME := (mLst (few (mCons (mC (.str ":")) (mCons (mC (.str " ")) (mCons (mC (.str "0")) (mCons (mC (.str "7")) (mCons (mC (.str ";")) (mCons (mC (.str "-")) (mCons (mC (.str "/")) (mCons (mC (.str " /")) (mCons (mC (.str "a")) (mCons (mC (.str "\n")) (mCons (mC (.str "12")) (mCons (mC (.str "; -")) mNil))))))))))))))
abbrev mFrom : ME := (mOp addK (mOp mulD (mC (.int 3)) (mVar 5)) (mOp mulD (mC (.int 15)) (mCall intF (mCons (mOp eqP (mVar 2) (mC (.int 3))) mNil))))
abbrev mTurnB (C f : Addr) (Tb : Addr → Option (List D → Option D)) : MS := (mFor (mItemsL (mCall F__law_texts (mCons (mVar 4) (mCons (mSl slKD (mVar 1) (mPart mFrom) mNoPart) (mCons mPcs mNil))))) (gN 6) (mIfS (mTest (mOp neP (mCall (F__law_note C f Tb) (mCons (mVar 6) mNil)) (mCall F__law_due (mCons (mVar 6) mNil)))) (mRet (mC (.bl false))) mNext))
theorem from_ok {ρ : DEnv} {t a : Nat} (h5 : mVar 5 ρ = some (.int (t : Int))) (h2 : mVar 2 ρ = some (.int (a : Int))) : ∃ n : Nat, n ≤ 3 * t + 15 ∧ mPart mFrom ρ = some (some (n : Int)) := by
  have e1 : mOp mulD (mC (.int 3)) (mVar 5) ρ = some (.int (3 * (t : Int))) := (ev_op rfl h5).trans (mulD_ok (.inl (by decide)))
  have e2 : mOp eqP (mVar 2) (mC (.int 3)) ρ = some (.bl (decide ((a : Int) = 3))) := (ev_op h2 rfl).trans (eqP_int _ _)
  by_cases h : (a : Int) = 3
  · rw [decide_eq_true h] at e2
    have e3 : mCall intF (mCons (mOp eqP (mVar 2) (mC (.int 3))) mNil) ρ = some (.int 1) := (ev_call (ev_cons e2 rfl)).trans rfl
    have e4 : mOp mulD (mC (.int 15)) (mCall intF (mCons (mOp eqP (mVar 2) (mC (.int 3))) mNil)) ρ = some (.int (15 * 1)) := (ev_op rfl e3).trans (mulD_ok (.inl (by decide)))
    refine ⟨3 * t + 15, by omega, ?_⟩
    rw [e_part, show mFrom ρ = some (.int (3 * (t : Int) + 15 * 1)) from ev_op e1 e4, show ((3 * t + 15 : Nat) : Int) = 3 * (t : Int) + 15 * 1 by omega]
    rfl
  · rw [decide_eq_false h] at e2
    have e3 : mCall intF (mCons (mOp eqP (mVar 2) (mC (.int 3))) mNil) ρ = some (.int 0) := (ev_call (ev_cons e2 rfl)).trans rfl
    have e4 : mOp mulD (mC (.int 15)) (mCall intF (mCons (mOp eqP (mVar 2) (mC (.int 3))) mNil)) ρ = some (.int (15 * 0)) := (ev_op rfl e3).trans (mulD_ok (.inl (by decide)))
    refine ⟨3 * t, by omega, ?_⟩
    rw [e_part, show mFrom ρ = some (.int (3 * (t : Int) + 15 * 0)) from ev_op e1 e4, show ((3 * t : Nat) : Int) = 3 * (t : Int) + 15 * 0 by omega]
    rfl
theorem turns_ok (hF : Tb f = some F_row_line) {ns : List Int} (hn : ns.length = 40) {z : Str} (hz : Ok 1000 z) {a : Nat} {l : List (Nat × D)} (h1 : (1, D.lst (ns.map D.int)) ∈ l) (h2 : (2, D.int (a : Int)) ∈ l) (h4 : (4, D.str z) ∈ l) (hl : ∀ p ∈ l, p.1 ≠ 5 ∧ p.1 ≠ 6) {ρ : DEnv} (h : Fix 8 l ρ) :
    ∃ ρ', mFor (mRange1 (mCons (mC (.int 3)) mNil)) (gN 5) (mTurnB C f Tb) ρ = some (.nx ρ') ∧ Fix 8 l ρ' := by
  rw [ev_for (e_range1 (ev_cons rfl rfl) (by decide)), range_nat]
  refine for_invP (I := Fix 8 l) (fun d hd ρ hρ => ?_) ρ h
  obtain ⟨t, ht, rfl⟩ := List.mem_map.mp hd
  rw [List.mem_range] at ht
  have ht : t < 3 := ht
  have hx := hρ.add (j := 5) (d := .int (t : Int)) (by decide) fun p hp => (hl p hp).1
  refine ⟨_, rfl, ?_⟩
  have v5 : mVar 5 (ρ.set 5 (.pu (.int (t : Int)))) = some (.int (t : Int)) := hx.v (5, .int (t : Int)) List.mem_cons_self
  have v4 := hx.v (4, .str z) (List.mem_cons_of_mem _ h4)
  have v1 := hx.v (1, _) (List.mem_cons_of_mem _ h1)
  have v2 := hx.v (2, _) (List.mem_cons_of_mem _ h2)
  obtain ⟨n, hn3, ep⟩ := from_ok v5 v2
  obtain ⟨x, y, c, r, e⟩ := cut3 (ns := ns) (t := n) (by omega)
  have es : mSl slKD (mVar 1) (mPart mFrom) mNoPart (ρ.set 5 (.pu (.int (t : Int)))) = some (.lst (.int x :: .int y :: .int c :: r)) := by
    rw [ev_sl v1 ep rfl]
    show some (D.lst (DD.cutD (ns.map D.int) (some (n : Int)) none)) = _
    rw [e]
  have epc : mPcs (ρ.set 5 (.pu (.int (t : Int)))) = some (.lst (pieceStrs.map .str)) := rfl
  obtain ⟨out, eo, oo⟩ := F_texts_ok (n0 := x) (n1 := y) (n2 := c) (ns := r) hz (pcs := pieceStrs) (by decide) pieces_ok
  have ei : mItemsL (mCall F__law_texts (mCons (mVar 4) (mCons (mSl slKD (mVar 1) (mPart mFrom) mNoPart) (mCons mPcs mNil)))) (ρ.set 5 (.pu (.int (t : Int)))) = some (out.map D.str) := by
    unfold mItemsL
    rw [(ev_call (ev_cons v4 (ev_cons es (ev_cons epc rfl)))).trans eo]
    rfl
  show ∃ ρ2, mFor _ _ _ _ = _ ∧ _
  rw [ev_for ei]
  have h3 : Fix 8 l (ρ.set 5 (.pu (.int (t : Int)))) := hx.sub fun p hp => List.mem_cons_of_mem _ hp
  refine for_invP (I := Fix 8 l) (fun d hd ρ hρ => ?_) _ h3
  obtain ⟨y, hy, rfl⟩ := List.mem_map.mp hd
  have h4 := hρ.add (j := 6) (d := .str y) (by decide) fun p hp => (hl p hp).2
  exact ⟨_, rfl, _, test_ok hF (small_of (oo y hy) (by decide)) (oo y hy).c (h4.v (6, .str y) List.mem_cons_self), h4.sub fun p hp => List.mem_cons_of_mem _ hp⟩
theorem turn_ok (hF : Tb f = some F_row_line) (s : List Int) {ns : List Int} (hn : ns.length = 40) {a : Nat} (ha : a ≤ 100) {ρ : DEnv} (h : Fix 8 [(0, D.lst (s.map D.int)), (1, D.lst (ns.map D.int)), (2, D.int (a : Int))] ρ) :
    ∃ ρ', mTurn_law P w C f Tb ρ = some (.nx ρ') ∧ Fix 8 [(0, D.lst (s.map D.int)), (1, D.lst (ns.map D.int))] ρ' := by
  obtain ⟨rs, er, _, ro, rl, rr⟩ := F_someRows_ok (P := P) (w := w) s (t := a) ha
  have e3 : mCall (F__law_some_rows P w) (mCons (mVar 0) (mCons (mVar 2) mNil)) ρ = some (.lst (rs.map rowD)) := (ev_call (ev_cons (h.v (0, _) (by simp)) (ev_cons (h.v (2, _) (by simp)) rfl))).trans er
  unfold mTurn_law
  rw [ev_seq (ev_asg e3)]
  have h3 := h.add (j := 3) (d := .lst (rs.map rowD)) (by decide) (by simp)
  generalize ρ.set 3 (.pu (.lst (rs.map rowD))) = ρ3 at h3
  have v3 : mVar 3 ρ3 = some (rowsD rs) := h3.v (3, _) (by simp)
  have e4 : mMeth joinD (mC (.str "\n")) (mCons (mLst (mLc (mItemsK (mVar 3)) (gN 7) mYes (mCall F__law_row_text (mCons (mVar 7) mNil)) [7])) mNil) ρ3 = some (.str (ttext rs)) := by
    have e1 : mLc (mItemsK (mVar 3)) (gN 7) mYes (mCall F__law_row_text (mCons (mVar 7) mNil)) [7] ρ3 = some ((rs.map rtext).map D.str) := by
      have ei : mItemsK (mVar 3) ρ3 = some (rs.map rowD) := by
        unfold mItemsK
        rw [v3]
        rfl
      rw [ev_lc ei (by rw [List.length_map]; omega)]
      have hw : ∀ d, mVar 7 ((wipeD ρ3 [7]).set 7 (.pu d)) = some d := fun d => by
        show mVar 7 ((ρ3.set 7 .un).set 7 (.pu d)) = some d
        unfold mVar
        rw [List.getElem?_set_self (by rw [List.length_set, h3.n]; decide)]
      have := lc_call (t := rowD) (F := F__law_row_text) (g := fun r => D.str (rtext r)) hw (l := rs) fun r hr => F_lawRowText_ok (ro r hr)
      rw [List.map_map]
      exact this
    exact (ev_meth rfl (ev_cons (ev_lst e1) rfl)).trans (join_ok tl_nl (by have := wt_rtexts ro; omega))
  rw [ev_seq (ev_asg e4)]
  have h4 := h3.add (j := 4) (d := .str (ttext rs)) (by decide) (by simp)
  generalize ρ3.set 4 (.pu (.str (ttext rs))) = ρ4 at h4
  have w3 : mVar 3 ρ4 = some (rowsD rs) := h4.v (3, _) (by simp)
  have w4 : mVar 4 ρ4 = some (.str (ttext rs)) := h4.v (4, _) (by simp)
  have o4 := ok_ttext ro rl
  have t1 : mTest (mOp neP (mCall F_show_table (mCons (mCall listKD (mCons (mVar 3) mNil)) mNil)) (mVar 4)) ρ4 = some false :=
    (ev_test ((ev_op ((ev_call (ev_cons ((ev_call (ev_cons w3 rfl)).trans (rfl : listKD [rowsD rs] = some (.lst (rs.map rowD)))) rfl)).trans (F_showTable_ok ro rl)) w4).trans (ne_same (same_str _)))).trans rfl
  have t2 : mTest (mOp neP (mCall (F__law_note C f Tb) (mCons (mVar 4) mNil)) (mVar 3)) ρ4 = some false := by
    have e := F_note_ok (C := C) hF (small_of o4 (by decide))
    rw [tableOut_back ro rr] at e
    exact (ev_test ((ev_op ((ev_call (ev_cons w4 rfl)).trans e) w3).trans (ne_same (same_rows rs)))).trans rfl
  rw [ev_seq ((ev_ifS_f ((ev_or_f t1).trans t2)).trans rfl)]
  obtain ⟨ρ5, e5, h5⟩ := turns_ok (C := C) hF hn o4 (a := a) (l := [(4, .str (ttext rs)), (3, .lst (rs.map rowD)), (0, D.lst (s.map D.int)), (1, D.lst (ns.map D.int)), (2, D.int (a : Int))]) (by simp) (by simp) (by simp) (by simp) h4
  rw [ev_seq e5]
  exact ⟨ρ5, rfl, h5.sub (by simp)⟩
def more : List Str := 
  "a : : ; - ; -" ::
  "a : : ; / ; -" ::
  "a : 0 : 1 ; 0 2 / 1 ; -" ::
  "a : : ; 0 / ; / 1" ::
  "a : : ; - - ; -" ::
  "a : : ; 0 ; -" ::
  "a : : ; / / ; -" ::
  ([] : List Str)
def more2 : List Str := 
  "a : : ;  ; -" ::
  "a : : ; -" ::
  "a : : ; - ; - ; -" ::
  "a : : ;- ; -" ::
  "a : : ; 1 0 / ; -" ::
  "a : ; - ; -" ::
  "a : : ; - ; -\nx" ::
  ([] : List Str)
def more3 : List Str := 
  "a : : ; - ; -\na : : ; / ; -" ::
  "a : : ; / ; -\na : : ; - ; -" ::
  "a : : ; - ; /\na : : ; - ; -" ::
  "a : : ; / ; /\na : : ; / ; /" ::
  ([] : List Str)
def more4 : List Str := 
  "a : : ; / 5 ; -\na : : ; 0 / ; -" ::
  "b : : ; - ; -\na : : ; - ; -" ::
  ([] : List Str)
theorem more_ok : ∀ p ∈ ((more ++ more2) ++ more3) ++ more4, small p ∧ okC p := fun p hp => by
  have h : ∀ p ∈ ((more ++ more2) ++ more3) ++ more4, (tl p).length ≤ 100 ∧ (tl p).all (· < 1114112) = true := by decide +kernel
  obtain ⟨h1, h2⟩ := h p hp
  refine ⟨?_, fun c hc => by simpa using List.all_eq_true.mp h2 c hc⟩
  show p.length ≤ 1000000
  rw [len_tl]
  omega
theorem rest_ok (hF : Tb f = some F_row_line) {ρ : DEnv} (h : Fix 8 [] ρ) : mRest_law C f Tb ρ = some (.rt (.bl true)) := by
  unfold mRest_law
  rw [ev_seq (ev_asg (d := .lst (more.map .str)) rfl)]
  have h1 := h.add (j := 3) (d := .lst (more.map .str)) (by decide) (by simp)
  generalize ρ.set 3 (.pu (.lst (more.map .str))) = ρ1 at h1
  have step : ∀ {ρ : DEnv} {x y : List Str} {ml : ME}, Fix 8 [(3, D.lst (x.map .str))] ρ → ml ρ = some (.lst (y.map .str)) → x.length + y.length ≤ 100 → mAsg 3 (mOp addD (mVar 3) ml) ρ = some (.nx (ρ.set 3 (.pu (.lst ((x ++ y).map .str))))) ∧ Fix 8 [(3, D.lst ((x ++ y).map .str))] (ρ.set 3 (.pu (.lst ((x ++ y).map .str)))) := fun {ρ x y ml} hx hy hl => by
    refine ⟨ev_asg ?_, (hx.sub (l' := []) (by simp)).add (by decide) (by simp)⟩
    rw [(ev_op (hx.v (3, D.lst (x.map .str)) (by simp)) hy).trans (add_lst (by rw [List.length_map, List.length_map]; omega)), List.map_append]
  obtain ⟨e2, h2⟩ := step (y := more2) h1 (ml := (mLst (few (mCons (mC (.str "a : : ;  ; -")) (mCons (mC (.str "a : : ; -")) (mCons (mC (.str "a : : ; - ; - ; -")) (mCons (mC (.str "a : : ;- ; -")) (mCons (mC (.str "a : : ; 1 0 / ; -")) (mCons (mC (.str "a : ; - ; -")) (mCons (mC (.str "a : : ; - ; -\nx")) mNil)))))))))) rfl (by decide)
  rw [ev_seq e2]
  obtain ⟨e3, h3⟩ := step (y := more3) h2 (ml := (mLst (few (mCons (mC (.str "a : : ; - ; -\na : : ; / ; -")) (mCons (mC (.str "a : : ; / ; -\na : : ; - ; -")) (mCons (mC (.str "a : : ; - ; /\na : : ; - ; -")) (mCons (mC (.str "a : : ; / ; /\na : : ; / ; /")) mNil))))))) rfl (by decide)
  rw [ev_seq e3]
  obtain ⟨e4, h4⟩ := step (y := more4) h3 (ml := (mLst (few (mCons (mC (.str "a : : ; / 5 ; -\na : : ; 0 / ; -")) (mCons (mC (.str "b : : ; - ; -\na : : ; - ; -")) mNil))))) rfl (by decide)
  rw [ev_seq e4]
  have ei : mItems (mVar 3) (((ρ1.set 3 (.pu (.lst ((more ++ more2).map .str)))).set 3 (.pu (.lst (((more ++ more2) ++ more3).map .str)))).set 3 (.pu (.lst ((((more ++ more2) ++ more3) ++ more4).map .str)))) = some ((((more ++ more2) ++ more3) ++ more4).map D.str) := by
    rw [e_items, h4.v (3, D.lst ((((more ++ more2) ++ more3) ++ more4).map .str)) (by simp)]
    rfl
  obtain ⟨ρ2, e5, _⟩ := for_invP (I := Fix 8 []) (f := gN 6) (body := mIfS (mTest (mOp neP (mCall (F__law_note C f Tb) (mCons (mVar 6) mNil)) (mCall F__law_due (mCons (mVar 6) mNil)))) (mRet (mC (.bl false))) mNext) (ds := (((more ++ more2) ++ more3) ++ more4).map D.str) (fun d hd ρ hρ => by
    obtain ⟨y, hy, rfl⟩ := List.mem_map.mp hd
    have hy6 := hρ.add (j := 6) (d := .str y) (by decide) (by simp)
    exact ⟨_, rfl, _, test_ok hF (more_ok y hy).1 (more_ok y hy).2 (hy6.v (6, .str y) List.mem_cons_self), hy6.sub (by simp)⟩) _ (h4.sub (by simp))
  rw [ev_seq ((ev_for ei).trans e5)]
  have e6 : mCall F_show_table (mCons (mLst (few mNil)) mNil) ρ2 = some (.str "") := (ev_call (ev_cons (rfl : _ = some (D.lst (([] : List Row).map rowD))) rfl)).trans (F_showTable_ok (rs := []) (by simp) (by simp))
  exact (ev_ret ((ev_op e6 rfl).trans (eqP_str _ _))).trans rfl
theorem law_true (hF : Tb f = some F_row_line) (s : List Int) : m_law P w C f Tb (startD N_law [.lst (s.map D.int)]) = some (.rt (.bl true)) := by
  show m_law P w C f Tb [.pu (.lst (s.map D.int)), .un, .un, .un, .un, .un, .un, .un] = _
  obtain ⟨ns, en, hn, ho⟩ := F_numbers_law s (t := 0) (m := 40) (by decide) (by decide)
  have s1 : mCall F__law_numbers (mCons (mVar 0) (mCons (mC (.int 0)) (mCons (mC (.int 40)) mNil))) [.pu (.lst (s.map D.int)), .un, .un, .un, .un, .un, .un, .un] = some (.lst (ns.map D.int)) := (ev_call (ev_cons rfl (ev_cons rfl (ev_cons rfl rfl)))).trans en
  unfold m_law
  rw [ev_seq (ev_asg' (ρ' := [.pu (.lst (s.map D.int)), .pu (.lst (ns.map D.int)), .un, .un, .un, .un, .un, .un]) s1 rfl)]
  have h0 : Fix 8 [(0, D.lst (s.map D.int)), (1, D.lst (ns.map D.int))] [.pu (.lst (s.map D.int)), .pu (.lst (ns.map D.int)), .un, .un, .un, .un, .un, .un] := ⟨rfl, fun p hp => by
    simp only [List.mem_cons, List.not_mem_nil, or_false] at hp
    rcases hp with rfl | rfl <;> rfl⟩
  have ei : mItemsK (mLst (few (mCons (mC (.int 1)) (mCons (mC (.int 3)) mNil)))) [.pu (.lst (s.map D.int)), .pu (.lst (ns.map D.int)), .un, .un, .un, .un, .un, .un] = some [D.int ((1 : Nat) : Int), D.int ((3 : Nat) : Int)] := rfl
  obtain ⟨ρ1, e1, h1⟩ := for_invP (I := Fix 8 [(0, D.lst (s.map D.int)), (1, D.lst (ns.map D.int))]) (f := gN 2) (body := mTurn_law P w C f Tb) (ds := [D.int ((1 : Nat) : Int), D.int ((3 : Nat) : Int)]) (fun d hd ρ hρ => by
    have : ∃ a : Nat, a ≤ 100 ∧ d = .int (a : Int) := by
      simp only [List.mem_cons, List.not_mem_nil, or_false] at hd
      rcases hd with rfl | rfl
      · exact ⟨1, by decide, rfl⟩
      · exact ⟨3, by decide, rfl⟩
    obtain ⟨a, ha, rfl⟩ := this
    have h2 := hρ.add (j := 2) (d := .int (a : Int)) (by decide) (by simp)
    refine ⟨_, rfl, ?_⟩
    exact turn_ok hF s hn ha (h2.sub (by simp))) _ h0
  rw [ev_seq ((ev_for ei).trans e1)]
  exact rest_ok hF (h1.sub (by simp))
end
end KN

set_option Elab.async false
set_option linter.all false
set_option maxRecDepth 100000
set_option maxHeartbeats 8000000
namespace KN
open PySem PySem.Spec PyProof.Rows L2 Evl DD
/-! EA: the promises of all defs, and the law's -/
section
variable {P : Program} {w : World} {K : PySem.W.Frag} {mg : Str → Option Value} {base : Heap}
def initS (i : Nat) : Stmt := match topS i with
  | .ClassDef (body := b) .. => b.getD 0 (.Pass ⟨0, 0, 0, 0⟩)
  | _ => .Pass ⟨0, 0, 0, 0⟩
abbrev s_init : Stmt := initS 3
theorem sc_init : FnScope ["self", "line"] ["self", "line"] (defScope s_init) := ⟨rfl, rfl, rfl, by decide +kernel, rfl, by decide +kernel, by decide +kernel⟩
theorem init_ok {fI C : Addr} {fd : FuncData} (F : Fun K "__init__" "BadLine.__init__" s_init fI fd) (hC : OexC K C) (hno : PySem.W.findIn K (.ref C) "line" = some none) : FnOk P w K mg base CX0 2 fI fd ["self", "line"] (spInit C "line") := by
  refine F.ok sc_init (fun vs H Q E h => ?_) (fun cdv A outer s H vs Q E hr h => ?_)
  · obtain ⟨a, y, rfl, _⟩ := h
    rfl
  · obtain ⟨a, y, rfl, ha, q⟩ := h
    refine ⟨_, pss_one (ps_ost (pv 0) (pv 1)), ?_⟩
    exact ⟨y, rfl, .ref a, rfl, a, C, rfl, hC, hno, .inl ⟨ha, fun dx n ne => q dx n ne⟩⟩
structure Fs (K : PySem.W.Frag) (mg : Str → Option Value) (x : Str) (st : Stmt) (ps : List Str) (f : Addr) : Prop where
  ex : ∃ fd, Fun K x x st f fd ∧ Binds K fd ps []
  g : mg x = some (.ref f)
theorem fs_ne {x y : Str} {st st' : Stmt} {ps ps' : List Str} {f : Addr} (h : x ≠ y) (A : Fs K mg x st ps f) (B : Fs K mg y st' ps' f) : False := by
  obtain ⟨⟨fd, F, _⟩, _⟩ := A
  obtain ⟨⟨fd', F', _⟩, _⟩ := B
  obtain ⟨oc, od, kV, doc, pm, an, cdv, ct, osl, rfl, lk, _⟩ := F.ex
  obtain ⟨oc', od', kV', doc', pm', an', cdv', ct', osl', rfl, lk', _⟩ := F'.ex
  have e := congrArg (fun o : Obj => match o.data with
    | .func fd => fd.name
    | _ => x) (Option.some.inj (lk.symm.trans lk'))
  exact h e
def spLaw (K : PySem.W.Frag) : Sp := fun vs H Q _ => ∃ (a : Addr) (ns : List Int), vs = [.ref a] ∧ SqL K H a (ns.map V.int) ∧ ns.length ≤ 63 ∧ ∀ H', Q (.bl true) H'
theorem rps_ints {G : Hp} : ∀ ns : List Int, Rps K G (ns.map V.int) (ns.map D.int)
  | [] => .nil
  | n :: ns => .cons (.val _) (rps_ints ns)
structure Err (K : PySem.W.Frag) (mg : Str → Option Value) (C BT fI : Addr) : Prop where
  g : mg "BadLine" = some (.ref C)
  gT : mg "BadText" = some (.ref BT)
  oex : OexC K C
  no : PySem.W.findIn K (.ref C) "line" = some none
  i1 : PySem.W.findIn K (.ref C) "__init__" = some (some (.ref fI))
  i2 : PySem.W.typeIn K (.ref fI) = some (.type "function")
  ini : ∃ fd, Fun K "__init__" "BadLine.__init__" s_init fI fd ∧ Binds K fd ["self", "line"] []
  c : ErrC K C
  xf : XfC K C
  exm : PySem.W.exmOne K (.ref C) (.ref C) = some true
  kit : PySem.W.kitOne K (.ref C) (.ref BT) = some false
end
def Tb (f0 : Addr) : Addr → Option (List D → Option D) := fun a => if a = f0 then some F_row_line else none
section
variable {P : Program} {w : World} {K : PySem.W.Frag} {mg : Str → Option Value} {base : Heap}
theorem law_ok (T : Tx K mg) (nb : PySem.W.nsIn K cStatics sharingNotToldKey = some none) {C BT fI : Addr} (E : Err K mg C BT fI)
    {f_lines_of : Addr} (A_lines_of : Fs K mg "lines_of" s_lines_of ["text"] f_lines_of)
    {f_words_of : Addr} (A_words_of : Fs K mg "words_of" s_words_of ["line"] f_words_of)
    {f_number_of : Addr} (A_number_of : Fs K mg "number_of" s_number_of ["word"] f_number_of)
    {f_numbers_of : Addr} (A_numbers_of : Fs K mg "numbers_of" s_numbers_of ["words"] f_numbers_of)
    {f_is_rising : Addr} (A_is_rising : Fs K mg "is_rising" s_is_rising ["listed"] f_is_rising)
    {f_read_lines : Addr} (A_read_lines : Fs K mg "read_lines" s_read_lines ["text", "form"] f_read_lines)
    {f_read_any : Addr} (A_read_any : Fs K mg "read_any" s_read_any ["text", "form"] f_read_any)
    {f_first_fallen : Addr} (A_first_fallen : Fs K mg "first_fallen" s_first_fallen ["keys"] f_first_fallen)
    {f_are_letters : Addr} (A_are_letters : Fs K mg "are_letters" s_are_letters ["text"] f_are_letters)
    {f_is_label : Addr} (A_is_label : Fs K mg "is_label" s_is_label ["value"] f_is_label)
    {f_atom_words : Addr} (A_atom_words : Fs K mg "atom_words" s_atom_words ["atoms"] f_atom_words)
    {f_kind_words : Addr} (A_kind_words : Fs K mg "kind_words" s_kind_words ["kind"] f_kind_words)
    {f_waiting_words : Addr} (A_waiting_words : Fs K mg "waiting_words" s_waiting_words ["waiting"] f_waiting_words)
    {f_row_text : Addr} (A_row_text : Fs K mg "row_text" s_row_text ["row"] f_row_text)
    {f_parts_at : Addr} (A_parts_at : Fs K mg "parts_at" s_parts_at ["words", "sign"] f_parts_at)
    {f_atoms_told : Addr} (A_atoms_told : Fs K mg "atoms_told" s_atoms_told ["words"] f_atoms_told)
    {f_kind_told : Addr} (A_kind_told : Fs K mg "kind_told" s_kind_told ["words"] f_kind_told)
    {f_waiting_told : Addr} (A_waiting_told : Fs K mg "waiting_told" s_waiting_told ["words"] f_waiting_told)
    {f_row_line : Addr} (A_row_line : Fs K mg "row_line" s_row_line ["line"] f_row_line)
    {f_waiting_key : Addr} (A_waiting_key : Fs K mg "waiting_key" s_waiting_key ["waiting"] f_waiting_key)
    {f_key_of_row : Addr} (A_key_of_row : Fs K mg "key_of_row" s_key_of_row ["row"] f_key_of_row)
    {f_check_ascending : Addr} (A_check_ascending : Fs K mg "check_ascending" s_check_ascending ["keys", "before"] f_check_ascending)
    {f_show_table : Addr} (A_show_table : Fs K mg "show_table" s_show_table ["table"] f_show_table)
    {f_read_table : Addr} (A_read_table : Fs K mg "read_table" s_read_table ["text"] f_read_table)
    {f__law_numbers : Addr} (A__law_numbers : Fs K mg "_law_numbers" s__law_numbers ["script", "at", "many"] f__law_numbers)
    {f__law_words : Addr} (A__law_words : Fs K mg "_law_words" s__law_words ["script", "at", "count"] f__law_words)
    {f__law_number : Addr} (A__law_number : Fs K mg "_law_number" s__law_number ["word"] f__law_number)
    {f__law_rising : Addr} (A__law_rising : Fs K mg "_law_rising" s__law_rising ["keys"] f__law_rising)
    {f__law_is_label : Addr} (A__law_is_label : Fs K mg "_law_is_label" s__law_is_label ["word"] f__law_is_label)
    {f__law_atoms_told : Addr} (A__law_atoms_told : Fs K mg "_law_atoms_told" s__law_atoms_told ["words"] f__law_atoms_told)
    {f__law_kind_told : Addr} (A__law_kind_told : Fs K mg "_law_kind_told" s__law_kind_told ["words"] f__law_kind_told)
    {f__law_waiting_told : Addr} (A__law_waiting_told : Fs K mg "_law_waiting_told" s__law_waiting_told ["words"] f__law_waiting_told)
    {f__law_row_told : Addr} (A__law_row_told : Fs K mg "_law_row_told" s__law_row_told ["line"] f__law_row_told)
    {f__law_kind_words : Addr} (A__law_kind_words : Fs K mg "_law_kind_words" s__law_kind_words ["kind"] f__law_kind_words)
    {f__law_waiting_words : Addr} (A__law_waiting_words : Fs K mg "_law_waiting_words" s__law_waiting_words ["waiting"] f__law_waiting_words)
    {f__law_row_key : Addr} (A__law_row_key : Fs K mg "_law_row_key" s__law_row_key ["row"] f__law_row_key)
    {f__law_some_atoms : Addr} (A__law_some_atoms : Fs K mg "_law_some_atoms" s__law_some_atoms ["number", "most"] f__law_some_atoms)
    {f__law_some_rows : Addr} (A__law_some_rows : Fs K mg "_law_some_rows" s__law_some_rows ["script", "at"] f__law_some_rows)
    {f__law_note : Addr} (A__law_note : Fs K mg "_law_note" s__law_note ["text"] f__law_note)
    {f__law_due : Addr} (A__law_due : Fs K mg "_law_due" s__law_due ["text"] f__law_due)
    {f__law_texts : Addr} (A__law_texts : Fs K mg "_law_texts" s__law_texts ["text", "numbers", "pieces"] f__law_texts)
    {f__law_row_text : Addr} (A__law_row_text : Fs K mg "_law_row_text" s__law_row_text ["row"] f__law_row_text)
    {f_law : Addr} (A_law : Fs K mg "law" s_law ["script"] f_law)
    {fd : FuncData} (FL : Fun K "law" "law" s_law f_law fd) : FnOk P w K mg base CX0 14 f_law fd ["script"] (spLaw K) := by
  obtain ⟨⟨fd_lines_of, F_lines_of_, B_lines_of⟩, g_lines_of⟩ := A_lines_of
  obtain ⟨⟨fd_words_of, F_words_of_, B_words_of⟩, g_words_of⟩ := A_words_of
  obtain ⟨⟨fd_number_of, F_number_of_, B_number_of⟩, g_number_of⟩ := A_number_of
  obtain ⟨⟨fd_numbers_of, F_numbers_of_, B_numbers_of⟩, g_numbers_of⟩ := A_numbers_of
  obtain ⟨⟨fd_is_rising, F_is_rising_, B_is_rising⟩, g_is_rising⟩ := A_is_rising
  obtain ⟨⟨fd_read_lines, F_read_lines_, B_read_lines⟩, g_read_lines⟩ := A_read_lines
  obtain ⟨⟨fd_read_any, F_read_any_, B_read_any⟩, g_read_any⟩ := A_read_any
  obtain ⟨⟨fd_first_fallen, F_first_fallen_, B_first_fallen⟩, g_first_fallen⟩ := A_first_fallen
  obtain ⟨⟨fd_are_letters, F_are_letters_, B_are_letters⟩, g_are_letters⟩ := A_are_letters
  obtain ⟨⟨fd_is_label, F_is_label_, B_is_label⟩, g_is_label⟩ := A_is_label
  obtain ⟨⟨fd_atom_words, F_atom_words_, B_atom_words⟩, g_atom_words⟩ := A_atom_words
  obtain ⟨⟨fd_kind_words, F_kind_words_, B_kind_words⟩, g_kind_words⟩ := A_kind_words
  obtain ⟨⟨fd_waiting_words, F_waiting_words_, B_waiting_words⟩, g_waiting_words⟩ := A_waiting_words
  obtain ⟨⟨fd_row_text, F_row_text_, B_row_text⟩, g_row_text⟩ := A_row_text
  obtain ⟨⟨fd_parts_at, F_parts_at_, B_parts_at⟩, g_parts_at⟩ := A_parts_at
  obtain ⟨⟨fd_atoms_told, F_atoms_told_, B_atoms_told⟩, g_atoms_told⟩ := A_atoms_told
  obtain ⟨⟨fd_kind_told, F_kind_told_, B_kind_told⟩, g_kind_told⟩ := A_kind_told
  obtain ⟨⟨fd_waiting_told, F_waiting_told_, B_waiting_told⟩, g_waiting_told⟩ := A_waiting_told
  obtain ⟨⟨fd_row_line, F_row_line_, B_row_line⟩, g_row_line⟩ := A_row_line
  obtain ⟨⟨fd_waiting_key, F_waiting_key_, B_waiting_key⟩, g_waiting_key⟩ := A_waiting_key
  obtain ⟨⟨fd_key_of_row, F_key_of_row_, B_key_of_row⟩, g_key_of_row⟩ := A_key_of_row
  obtain ⟨⟨fd_check_ascending, F_check_ascending_, B_check_ascending⟩, g_check_ascending⟩ := A_check_ascending
  obtain ⟨⟨fd_show_table, F_show_table_, B_show_table⟩, g_show_table⟩ := A_show_table
  obtain ⟨⟨fd_read_table, F_read_table_, B_read_table⟩, g_read_table⟩ := A_read_table
  obtain ⟨⟨fd__law_numbers, F__law_numbers_, B__law_numbers⟩, g__law_numbers⟩ := A__law_numbers
  obtain ⟨⟨fd__law_words, F__law_words_, B__law_words⟩, g__law_words⟩ := A__law_words
  obtain ⟨⟨fd__law_number, F__law_number_, B__law_number⟩, g__law_number⟩ := A__law_number
  obtain ⟨⟨fd__law_rising, F__law_rising_, B__law_rising⟩, g__law_rising⟩ := A__law_rising
  obtain ⟨⟨fd__law_is_label, F__law_is_label_, B__law_is_label⟩, g__law_is_label⟩ := A__law_is_label
  obtain ⟨⟨fd__law_atoms_told, F__law_atoms_told_, B__law_atoms_told⟩, g__law_atoms_told⟩ := A__law_atoms_told
  obtain ⟨⟨fd__law_kind_told, F__law_kind_told_, B__law_kind_told⟩, g__law_kind_told⟩ := A__law_kind_told
  obtain ⟨⟨fd__law_waiting_told, F__law_waiting_told_, B__law_waiting_told⟩, g__law_waiting_told⟩ := A__law_waiting_told
  obtain ⟨⟨fd__law_row_told, F__law_row_told_, B__law_row_told⟩, g__law_row_told⟩ := A__law_row_told
  obtain ⟨⟨fd__law_kind_words, F__law_kind_words_, B__law_kind_words⟩, g__law_kind_words⟩ := A__law_kind_words
  obtain ⟨⟨fd__law_waiting_words, F__law_waiting_words_, B__law_waiting_words⟩, g__law_waiting_words⟩ := A__law_waiting_words
  obtain ⟨⟨fd__law_row_key, F__law_row_key_, B__law_row_key⟩, g__law_row_key⟩ := A__law_row_key
  obtain ⟨⟨fd__law_some_atoms, F__law_some_atoms_, B__law_some_atoms⟩, g__law_some_atoms⟩ := A__law_some_atoms
  obtain ⟨⟨fd__law_some_rows, F__law_some_rows_, B__law_some_rows⟩, g__law_some_rows⟩ := A__law_some_rows
  obtain ⟨⟨fd__law_note, F__law_note_, B__law_note⟩, g__law_note⟩ := A__law_note
  obtain ⟨⟨fd__law_due, F__law_due_, B__law_due⟩, g__law_due⟩ := A__law_due
  obtain ⟨⟨fd__law_texts, F__law_texts_, B__law_texts⟩, g__law_texts⟩ := A__law_texts
  obtain ⟨⟨fd__law_row_text, F__law_row_text_, B__law_row_text⟩, g__law_row_text⟩ := A__law_row_text
  obtain ⟨fdI, FI, BI⟩ := E.ini
  have ET : ErrT P w K mg base "BadLine" C "line" := ⟨E.g, E.oex, fI, fdI, _, E.i1, E.i2, BI, init_ok FI E.oex E.no⟩
  have EF : ErrF K mg "BadLine" C "line" := ⟨E.g, E.c, E.xf, E.no, E.exm⟩
  have C_lines_of := fn_lines_of (P := P) (w := w) (base := base) T F_lines_of_ B_lines_of g_lines_of 
  have C_words_of := fn_words_of (P := P) (w := w) (base := base) T F_words_of_ B_words_of g_words_of 
  have C_number_of := fn_number_of (P := P) (w := w) (base := base) T F_number_of_ B_number_of g_number_of 
  have C_numbers_of := fn_numbers_of (P := P) (w := w) (base := base) T F_numbers_of_ B_numbers_of g_numbers_of C_number_of
  have C_is_rising := fn_is_rising (P := P) (w := w) (base := base) T F_is_rising_ B_is_rising g_is_rising 
  have C_first_fallen := fn_first_fallen (P := P) (w := w) (base := base) T F_first_fallen_ B_first_fallen g_first_fallen 
  have C_are_letters := fn_are_letters (P := P) (w := w) (base := base) T F_are_letters_ B_are_letters g_are_letters 
  have C_is_label := fn_is_label (P := P) (w := w) (base := base) T F_is_label_ B_is_label g_is_label C_are_letters
  have C_atom_words := fn_atom_words (P := P) (w := w) (base := base) T F_atom_words_ B_atom_words g_atom_words 
  have C_kind_words := fn_kind_words (P := P) (w := w) (base := base) T F_kind_words_ B_kind_words g_kind_words C_atom_words
  have C_waiting_words := fn_waiting_words (P := P) (w := w) (base := base) T F_waiting_words_ B_waiting_words g_waiting_words C_atom_words
  have C_row_text := fn_row_text (P := P) (w := w) (base := base) T F_row_text_ B_row_text g_row_text C_kind_words C_waiting_words
  have C_parts_at := fn_parts_at (P := P) (w := w) (base := base) T F_parts_at_ B_parts_at g_parts_at 
  have C_atoms_told := fn_atoms_told (P := P) (w := w) (base := base) T F_atoms_told_ B_atoms_told g_atoms_told C_numbers_of C_is_rising
  have C_kind_told := fn_kind_told (P := P) (w := w) (base := base) T F_kind_told_ B_kind_told g_kind_told C_parts_at C_is_label C_atoms_told
  have C_waiting_told := fn_waiting_told (P := P) (w := w) (base := base) T F_waiting_told_ B_waiting_told g_waiting_told C_parts_at C_atoms_told
  have C_row_line := fn_row_line (P := P) (w := w) (base := base) T F_row_line_ B_row_line g_row_line C_parts_at C_words_of C_kind_told C_waiting_told
  have HT : ∀ f F, Tb f_row_line f = some F → HeldD P w K mg base 9 1 f F := fun f F h => by
    unfold Tb at h
    split at h
    · rename_i e
      cases h
      rw [e]
      exact C_row_line.held.mono (by decide)
    · cases h
  have C_read_lines := fn_read_lines (P := P) (w := w) (base := base) T F_read_lines_ B_read_lines g_read_lines HT C_lines_of ET
  have C_read_any := fn_read_any (P := P) (w := w) (base := base) T F_read_any_ B_read_any g_read_any C_read_lines
  have C_waiting_key := fn_waiting_key (P := P) (w := w) (base := base) T F_waiting_key_ B_waiting_key g_waiting_key 
  have C_key_of_row := fn_key_of_row (P := P) (w := w) (base := base) T F_key_of_row_ B_key_of_row g_key_of_row C_waiting_key
  have C_check_ascending := fn_check_ascending (P := P) (w := w) (base := base) T F_check_ascending_ B_check_ascending g_check_ascending C_first_fallen ET
  have C_show_table := fn_show_table (P := P) (w := w) (base := base) T F_show_table_ B_show_table g_show_table C_row_text
  have C_read_table := fn_read_table (P := P) (w := w) (base := base) T F_read_table_ B_read_table g_read_table g_row_line C_read_any C_key_of_row C_check_ascending
  have C__law_numbers := fn__law_numbers (P := P) (w := w) (base := base) T F__law_numbers_ B__law_numbers g__law_numbers 
  have C__law_words := fn__law_words (P := P) (w := w) (base := base) T F__law_words_ B__law_words g__law_words C__law_numbers
  have C__law_number := fn__law_number (P := P) (w := w) (base := base) T F__law_number_ B__law_number g__law_number 
  have C__law_rising := fn__law_rising (P := P) (w := w) (base := base) T F__law_rising_ B__law_rising g__law_rising 
  have C__law_is_label := fn__law_is_label (P := P) (w := w) (base := base) T F__law_is_label_ B__law_is_label g__law_is_label 
  have C__law_atoms_told := fn__law_atoms_told (P := P) (w := w) (base := base) T F__law_atoms_told_ B__law_atoms_told g__law_atoms_told C__law_number C__law_rising
  have C__law_kind_told := fn__law_kind_told (P := P) (w := w) (base := base) T F__law_kind_told_ B__law_kind_told g__law_kind_told C__law_is_label C__law_atoms_told
  have C__law_waiting_told := fn__law_waiting_told (P := P) (w := w) (base := base) T F__law_waiting_told_ B__law_waiting_told g__law_waiting_told C__law_atoms_told
  have C__law_row_told := fn__law_row_told (P := P) (w := w) (base := base) T F__law_row_told_ B__law_row_told g__law_row_told C__law_kind_told C__law_waiting_told
  have C__law_kind_words := fn__law_kind_words (P := P) (w := w) (base := base) T F__law_kind_words_ B__law_kind_words g__law_kind_words 
  have C__law_waiting_words := fn__law_waiting_words (P := P) (w := w) (base := base) T F__law_waiting_words_ B__law_waiting_words g__law_waiting_words 
  have C__law_row_key := fn__law_row_key (P := P) (w := w) (base := base) T F__law_row_key_ B__law_row_key g__law_row_key 
  have C__law_some_atoms := fn__law_some_atoms (P := P) (w := w) (base := base) T F__law_some_atoms_ B__law_some_atoms g__law_some_atoms 
  have C__law_some_rows := fn__law_some_rows (P := P) (w := w) (base := base) T F__law_some_rows_ B__law_some_rows g__law_some_rows C__law_numbers C__law_words C__law_some_atoms C__law_row_key
  have C__law_note := fn__law_note (P := P) (w := w) (base := base) T F__law_note_ B__law_note g__law_note C_read_table EF E.gT E.kit
  have C__law_due := fn__law_due (P := P) (w := w) (base := base) T F__law_due_ B__law_due g__law_due C__law_row_told C__law_rising C__law_row_key
  have C__law_texts := fun (B T0 : Nat) (h1 : 1 ≤ B) (h2 : B ≤ T0) => fn__law_texts (P := P) (w := w) (base := base) T nb F__law_texts_ B__law_texts g__law_texts h1 h2
  have C__law_row_text := fn__law_row_text (P := P) (w := w) (base := base) T F__law_row_text_ B__law_row_text g__law_row_text C__law_kind_words C__law_waiting_words
  have t0 : Tb f_row_line f_row_line = some F_row_line := if_pos rfl
  refine fnL_of (m := mNext) (n0 := 0) (k := 13) FL sc_law (by decide) (fun vs H Q E h => ?_) (fun cdv A outer s H vs Q E hr h => ?_)
  · obtain ⟨a, ns, rfl, _⟩ := h
    rfl
  · obtain ⟨a, ns, rfl, hS, hl, q⟩ := h
    obtain ⟨t, J⟩ := walk_law (P := P) (w := w) (base := base) T C__law_some_rows C_show_table C__law_note C__law_due C__law_numbers C__law_row_text C__law_texts cdv A outer s H E hr
    refine ⟨t, J.p, ?_⟩
    have sp : spD K 1 (runF N_law 1 (m_law P w C f_row_line (Tb f_row_line))) [.ref a] H Q E := ⟨H, [.lst (ns.map D.int)], .bl true, rfl, Ex.refl H, .cons (.lst hS (rps_ints ns)) .nil, ev_runF rfl (law_true t0 ns), fun v G' H' _ rv => by
      cases rp_val rv
      exact q H'⟩
    exact body_of J.m sp
end
end KN

set_option Elab.async false
set_option linter.all false
set_option maxRecDepth 100000
set_option maxHeartbeats 8000000
namespace KN
open PySem PySem.Spec PyProof.Rows L2 Evl DD
/-- an error of the class at S is what «except S» names -/
theorem exm_self {K : PySem.W.Frag} {S : Addr} (h1 : PySem.W.subIn K (.ref S) (.type "BaseException") = some true) (h2 : (PySem.W.clsIn K S).isSome = true) (h3 : PySem.W.typeIn K (.ref S) = some (.type "type")) (h4 : PySem.W.subIn K (.ref S) (.ref S) = some true) :
    PySem.W.exmOne K (.ref S) (.ref S) = some true := by
  have e1 : (PySem.W.subIn K (.ref S) (.type "BaseException") == some true) = true := by rw [h1] <;> rfl
  have e2 : ((PySem.W.clsIn K S).isSome && PySem.W.typeIn K (.ref S) == some (.type "type")) = true := by
    rw [h2, h3] <;> rfl
  show (if (PySem.W.subIn K (.ref S) (.type "BaseException") == some true) = true then (if ((PySem.W.clsIn K S).isSome && PySem.W.typeIn K (.ref S) == some (.type "type")) = true then PySem.W.subIn K (.ref S) (.ref S) else none) else none) = some true
  rw [if_pos e1, if_pos e2]
  exact h4
theorem kit_no {K : PySem.W.Frag} {C BT : Addr} (h0 : (C == BT) = false) (h1 : (PySem.W.clsIn K BT).isSome = true) (h2 : PySem.W.typeIn K (.ref BT) = some (.type "type")) (h3 : PySem.W.subIn K (.ref C) (.ref BT) = some false) :
    PySem.W.kitOne K (.ref C) (.ref BT) = some false := by
  have e0 : ¬ ((Value.ref C == Value.ref BT) = true) := fun e => by
    have e1 : Value.ref C = Value.ref BT := eq_of_beq e
    cases e1
    simp at h0
  have e2 : ((PySem.W.clsIn K BT).isSome && PySem.W.typeIn K (.ref BT) == some (.type "type")) = true := by
    rw [h1, h2] <;> rfl
  unfold PySem.W.kitOne
  rw [if_neg e0]
  show (if ((PySem.W.clsIn K BT).isSome && PySem.W.typeIn K (.ref BT) == some (.type "type")) = true then PySem.W.subIn K (.ref C) (.ref BT) else none) = some false
  rw [if_pos e2]
  exact h3
theorem all_mk {l : PySem.W.OpenLaw} {w : World} {K : PySem.W.Frag} {h : Heap} {mg : Str → Option Value} {fa C BT : Addr} (X : K.In h) (G : h.Ns mainGlobals mg) (hfa : mg "law" = some (.ref fa))
    {f0 : Addr} {od0 an0 : Option Addr} {sl0 : Array (Option Value)} {oc0 kV0 dc0 pm0 cd0 ct0 : Value}
    {f1 : Addr} {od1 an1 : Option Addr} {sl1 : Array (Option Value)} {oc1 kV1 dc1 pm1 cd1 ct1 : Value}
    {f2 : Addr} {od2 an2 : Option Addr} {sl2 : Array (Option Value)} {oc2 kV2 dc2 pm2 cd2 ct2 : Value}
    {f3 : Addr} {od3 an3 : Option Addr} {sl3 : Array (Option Value)} {oc3 kV3 dc3 pm3 cd3 ct3 : Value}
    {f4 : Addr} {od4 an4 : Option Addr} {sl4 : Array (Option Value)} {oc4 kV4 dc4 pm4 cd4 ct4 : Value}
    {f5 : Addr} {od5 an5 : Option Addr} {sl5 : Array (Option Value)} {oc5 kV5 dc5 pm5 cd5 ct5 : Value}
    {f6 : Addr} {od6 an6 : Option Addr} {sl6 : Array (Option Value)} {oc6 kV6 dc6 pm6 cd6 ct6 : Value}
    {f7 : Addr} {od7 an7 : Option Addr} {sl7 : Array (Option Value)} {oc7 kV7 dc7 pm7 cd7 ct7 : Value}
    {f8 : Addr} {od8 an8 : Option Addr} {sl8 : Array (Option Value)} {oc8 kV8 dc8 pm8 cd8 ct8 : Value}
    {f9 : Addr} {od9 an9 : Option Addr} {sl9 : Array (Option Value)} {oc9 kV9 dc9 pm9 cd9 ct9 : Value}
    {f10 : Addr} {od10 an10 : Option Addr} {sl10 : Array (Option Value)} {oc10 kV10 dc10 pm10 cd10 ct10 : Value}
    {f11 : Addr} {od11 an11 : Option Addr} {sl11 : Array (Option Value)} {oc11 kV11 dc11 pm11 cd11 ct11 : Value}
    {f12 : Addr} {od12 an12 : Option Addr} {sl12 : Array (Option Value)} {oc12 kV12 dc12 pm12 cd12 ct12 : Value}
    {f13 : Addr} {od13 an13 : Option Addr} {sl13 : Array (Option Value)} {oc13 kV13 dc13 pm13 cd13 ct13 : Value}
    {f14 : Addr} {od14 an14 : Option Addr} {sl14 : Array (Option Value)} {oc14 kV14 dc14 pm14 cd14 ct14 : Value}
    {f15 : Addr} {od15 an15 : Option Addr} {sl15 : Array (Option Value)} {oc15 kV15 dc15 pm15 cd15 ct15 : Value}
    {f16 : Addr} {od16 an16 : Option Addr} {sl16 : Array (Option Value)} {oc16 kV16 dc16 pm16 cd16 ct16 : Value}
    {f17 : Addr} {od17 an17 : Option Addr} {sl17 : Array (Option Value)} {oc17 kV17 dc17 pm17 cd17 ct17 : Value}
    {f18 : Addr} {od18 an18 : Option Addr} {sl18 : Array (Option Value)} {oc18 kV18 dc18 pm18 cd18 ct18 : Value}
    {f19 : Addr} {od19 an19 : Option Addr} {sl19 : Array (Option Value)} {oc19 kV19 dc19 pm19 cd19 ct19 : Value}
    {f20 : Addr} {od20 an20 : Option Addr} {sl20 : Array (Option Value)} {oc20 kV20 dc20 pm20 cd20 ct20 : Value}
    {f21 : Addr} {od21 an21 : Option Addr} {sl21 : Array (Option Value)} {oc21 kV21 dc21 pm21 cd21 ct21 : Value}
    {f22 : Addr} {od22 an22 : Option Addr} {sl22 : Array (Option Value)} {oc22 kV22 dc22 pm22 cd22 ct22 : Value}
    {f23 : Addr} {od23 an23 : Option Addr} {sl23 : Array (Option Value)} {oc23 kV23 dc23 pm23 cd23 ct23 : Value}
    {f24 : Addr} {od24 an24 : Option Addr} {sl24 : Array (Option Value)} {oc24 kV24 dc24 pm24 cd24 ct24 : Value}
    {f25 : Addr} {od25 an25 : Option Addr} {sl25 : Array (Option Value)} {oc25 kV25 dc25 pm25 cd25 ct25 : Value}
    {f26 : Addr} {od26 an26 : Option Addr} {sl26 : Array (Option Value)} {oc26 kV26 dc26 pm26 cd26 ct26 : Value}
    {f27 : Addr} {od27 an27 : Option Addr} {sl27 : Array (Option Value)} {oc27 kV27 dc27 pm27 cd27 ct27 : Value}
    {f28 : Addr} {od28 an28 : Option Addr} {sl28 : Array (Option Value)} {oc28 kV28 dc28 pm28 cd28 ct28 : Value}
    {f29 : Addr} {od29 an29 : Option Addr} {sl29 : Array (Option Value)} {oc29 kV29 dc29 pm29 cd29 ct29 : Value}
    {f30 : Addr} {od30 an30 : Option Addr} {sl30 : Array (Option Value)} {oc30 kV30 dc30 pm30 cd30 ct30 : Value}
    {f31 : Addr} {od31 an31 : Option Addr} {sl31 : Array (Option Value)} {oc31 kV31 dc31 pm31 cd31 ct31 : Value}
    {f32 : Addr} {od32 an32 : Option Addr} {sl32 : Array (Option Value)} {oc32 kV32 dc32 pm32 cd32 ct32 : Value}
    {f33 : Addr} {od33 an33 : Option Addr} {sl33 : Array (Option Value)} {oc33 kV33 dc33 pm33 cd33 ct33 : Value}
    {f34 : Addr} {od34 an34 : Option Addr} {sl34 : Array (Option Value)} {oc34 kV34 dc34 pm34 cd34 ct34 : Value}
    {f35 : Addr} {od35 an35 : Option Addr} {sl35 : Array (Option Value)} {oc35 kV35 dc35 pm35 cd35 ct35 : Value}
    {f36 : Addr} {od36 an36 : Option Addr} {sl36 : Array (Option Value)} {oc36 kV36 dc36 pm36 cd36 ct36 : Value}
    {f37 : Addr} {od37 an37 : Option Addr} {sl37 : Array (Option Value)} {oc37 kV37 dc37 pm37 cd37 ct37 : Value}
    {f38 : Addr} {od38 an38 : Option Addr} {sl38 : Array (Option Value)} {oc38 kV38 dc38 pm38 cd38 ct38 : Value}
    {f39 : Addr} {od39 an39 : Option Addr} {sl39 : Array (Option Value)} {oc39 kV39 dc39 pm39 cd39 ct39 : Value}
    {f40 : Addr} {od40 an40 : Option Addr} {sl40 : Array (Option Value)} {oc40 kV40 dc40 pm40 cd40 ct40 : Value}
    {f41 : Addr} {od41 an41 : Option Addr} {sl41 : Array (Option Value)} {oc41 kV41 dc41 pm41 cd41 ct41 : Value}
    {f42 : Addr} {od42 an42 : Option Addr} {sl42 : Array (Option Value)} {oc42 kV42 dc42 pm42 cd42 ct42 : Value}
    {f43 : Addr} {od43 an43 : Option Addr} {sl43 : Array (Option Value)} {oc43 kV43 dc43 pm43 cd43 ct43 : Value}
    (a0 : PySem.W.nsIn K mainGlobals "lines_of" = some (some (.ref f0))) (l0 : K.lookup f0 = some ⟨oc0, od0, .func (PySem.W.fnOf "lines_of" "lines_of" (defArgs s_lines_of) (defBody s_lines_of) (defScope s_lines_of) .none kV0 dc0 pm0 an0 cd0 ct0), sl0⟩) (c0 : PySem.W.codeIn K cd0 "lines_of" = true) (k0 : PySem.W.keepIn K (.ref f0) = true)
    (a1 : PySem.W.nsIn K mainGlobals "words_of" = some (some (.ref f1))) (l1 : K.lookup f1 = some ⟨oc1, od1, .func (PySem.W.fnOf "words_of" "words_of" (defArgs s_words_of) (defBody s_words_of) (defScope s_words_of) .none kV1 dc1 pm1 an1 cd1 ct1), sl1⟩) (c1 : PySem.W.codeIn K cd1 "words_of" = true) (k1 : PySem.W.keepIn K (.ref f1) = true)
    (a2 : PySem.W.nsIn K mainGlobals "number_of" = some (some (.ref f2))) (l2 : K.lookup f2 = some ⟨oc2, od2, .func (PySem.W.fnOf "number_of" "number_of" (defArgs s_number_of) (defBody s_number_of) (defScope s_number_of) .none kV2 dc2 pm2 an2 cd2 ct2), sl2⟩) (c2 : PySem.W.codeIn K cd2 "number_of" = true) (k2 : PySem.W.keepIn K (.ref f2) = true)
    (a3 : PySem.W.nsIn K mainGlobals "numbers_of" = some (some (.ref f3))) (l3 : K.lookup f3 = some ⟨oc3, od3, .func (PySem.W.fnOf "numbers_of" "numbers_of" (defArgs s_numbers_of) (defBody s_numbers_of) (defScope s_numbers_of) .none kV3 dc3 pm3 an3 cd3 ct3), sl3⟩) (c3 : PySem.W.codeIn K cd3 "numbers_of" = true) (k3 : PySem.W.keepIn K (.ref f3) = true)
    (a4 : PySem.W.nsIn K mainGlobals "is_rising" = some (some (.ref f4))) (l4 : K.lookup f4 = some ⟨oc4, od4, .func (PySem.W.fnOf "is_rising" "is_rising" (defArgs s_is_rising) (defBody s_is_rising) (defScope s_is_rising) .none kV4 dc4 pm4 an4 cd4 ct4), sl4⟩) (c4 : PySem.W.codeIn K cd4 "is_rising" = true) (k4 : PySem.W.keepIn K (.ref f4) = true)
    (a5 : PySem.W.nsIn K mainGlobals "read_lines" = some (some (.ref f5))) (l5 : K.lookup f5 = some ⟨oc5, od5, .func (PySem.W.fnOf "read_lines" "read_lines" (defArgs s_read_lines) (defBody s_read_lines) (defScope s_read_lines) .none kV5 dc5 pm5 an5 cd5 ct5), sl5⟩) (c5 : PySem.W.codeIn K cd5 "read_lines" = true) (k5 : PySem.W.keepIn K (.ref f5) = true)
    (a6 : PySem.W.nsIn K mainGlobals "read_any" = some (some (.ref f6))) (l6 : K.lookup f6 = some ⟨oc6, od6, .func (PySem.W.fnOf "read_any" "read_any" (defArgs s_read_any) (defBody s_read_any) (defScope s_read_any) .none kV6 dc6 pm6 an6 cd6 ct6), sl6⟩) (c6 : PySem.W.codeIn K cd6 "read_any" = true) (k6 : PySem.W.keepIn K (.ref f6) = true)
    (a7 : PySem.W.nsIn K mainGlobals "first_fallen" = some (some (.ref f7))) (l7 : K.lookup f7 = some ⟨oc7, od7, .func (PySem.W.fnOf "first_fallen" "first_fallen" (defArgs s_first_fallen) (defBody s_first_fallen) (defScope s_first_fallen) .none kV7 dc7 pm7 an7 cd7 ct7), sl7⟩) (c7 : PySem.W.codeIn K cd7 "first_fallen" = true) (k7 : PySem.W.keepIn K (.ref f7) = true)
    (a8 : PySem.W.nsIn K mainGlobals "are_letters" = some (some (.ref f8))) (l8 : K.lookup f8 = some ⟨oc8, od8, .func (PySem.W.fnOf "are_letters" "are_letters" (defArgs s_are_letters) (defBody s_are_letters) (defScope s_are_letters) .none kV8 dc8 pm8 an8 cd8 ct8), sl8⟩) (c8 : PySem.W.codeIn K cd8 "are_letters" = true) (k8 : PySem.W.keepIn K (.ref f8) = true)
    (a9 : PySem.W.nsIn K mainGlobals "is_label" = some (some (.ref f9))) (l9 : K.lookup f9 = some ⟨oc9, od9, .func (PySem.W.fnOf "is_label" "is_label" (defArgs s_is_label) (defBody s_is_label) (defScope s_is_label) .none kV9 dc9 pm9 an9 cd9 ct9), sl9⟩) (c9 : PySem.W.codeIn K cd9 "is_label" = true) (k9 : PySem.W.keepIn K (.ref f9) = true)
    (a10 : PySem.W.nsIn K mainGlobals "atom_words" = some (some (.ref f10))) (l10 : K.lookup f10 = some ⟨oc10, od10, .func (PySem.W.fnOf "atom_words" "atom_words" (defArgs s_atom_words) (defBody s_atom_words) (defScope s_atom_words) .none kV10 dc10 pm10 an10 cd10 ct10), sl10⟩) (c10 : PySem.W.codeIn K cd10 "atom_words" = true) (k10 : PySem.W.keepIn K (.ref f10) = true)
    (a11 : PySem.W.nsIn K mainGlobals "kind_words" = some (some (.ref f11))) (l11 : K.lookup f11 = some ⟨oc11, od11, .func (PySem.W.fnOf "kind_words" "kind_words" (defArgs s_kind_words) (defBody s_kind_words) (defScope s_kind_words) .none kV11 dc11 pm11 an11 cd11 ct11), sl11⟩) (c11 : PySem.W.codeIn K cd11 "kind_words" = true) (k11 : PySem.W.keepIn K (.ref f11) = true)
    (a12 : PySem.W.nsIn K mainGlobals "waiting_words" = some (some (.ref f12))) (l12 : K.lookup f12 = some ⟨oc12, od12, .func (PySem.W.fnOf "waiting_words" "waiting_words" (defArgs s_waiting_words) (defBody s_waiting_words) (defScope s_waiting_words) .none kV12 dc12 pm12 an12 cd12 ct12), sl12⟩) (c12 : PySem.W.codeIn K cd12 "waiting_words" = true) (k12 : PySem.W.keepIn K (.ref f12) = true)
    (a13 : PySem.W.nsIn K mainGlobals "row_text" = some (some (.ref f13))) (l13 : K.lookup f13 = some ⟨oc13, od13, .func (PySem.W.fnOf "row_text" "row_text" (defArgs s_row_text) (defBody s_row_text) (defScope s_row_text) .none kV13 dc13 pm13 an13 cd13 ct13), sl13⟩) (c13 : PySem.W.codeIn K cd13 "row_text" = true) (k13 : PySem.W.keepIn K (.ref f13) = true)
    (a14 : PySem.W.nsIn K mainGlobals "parts_at" = some (some (.ref f14))) (l14 : K.lookup f14 = some ⟨oc14, od14, .func (PySem.W.fnOf "parts_at" "parts_at" (defArgs s_parts_at) (defBody s_parts_at) (defScope s_parts_at) .none kV14 dc14 pm14 an14 cd14 ct14), sl14⟩) (c14 : PySem.W.codeIn K cd14 "parts_at" = true) (k14 : PySem.W.keepIn K (.ref f14) = true)
    (a15 : PySem.W.nsIn K mainGlobals "atoms_told" = some (some (.ref f15))) (l15 : K.lookup f15 = some ⟨oc15, od15, .func (PySem.W.fnOf "atoms_told" "atoms_told" (defArgs s_atoms_told) (defBody s_atoms_told) (defScope s_atoms_told) .none kV15 dc15 pm15 an15 cd15 ct15), sl15⟩) (c15 : PySem.W.codeIn K cd15 "atoms_told" = true) (k15 : PySem.W.keepIn K (.ref f15) = true)
    (a16 : PySem.W.nsIn K mainGlobals "kind_told" = some (some (.ref f16))) (l16 : K.lookup f16 = some ⟨oc16, od16, .func (PySem.W.fnOf "kind_told" "kind_told" (defArgs s_kind_told) (defBody s_kind_told) (defScope s_kind_told) .none kV16 dc16 pm16 an16 cd16 ct16), sl16⟩) (c16 : PySem.W.codeIn K cd16 "kind_told" = true) (k16 : PySem.W.keepIn K (.ref f16) = true)
    (a17 : PySem.W.nsIn K mainGlobals "waiting_told" = some (some (.ref f17))) (l17 : K.lookup f17 = some ⟨oc17, od17, .func (PySem.W.fnOf "waiting_told" "waiting_told" (defArgs s_waiting_told) (defBody s_waiting_told) (defScope s_waiting_told) .none kV17 dc17 pm17 an17 cd17 ct17), sl17⟩) (c17 : PySem.W.codeIn K cd17 "waiting_told" = true) (k17 : PySem.W.keepIn K (.ref f17) = true)
    (a18 : PySem.W.nsIn K mainGlobals "row_line" = some (some (.ref f18))) (l18 : K.lookup f18 = some ⟨oc18, od18, .func (PySem.W.fnOf "row_line" "row_line" (defArgs s_row_line) (defBody s_row_line) (defScope s_row_line) .none kV18 dc18 pm18 an18 cd18 ct18), sl18⟩) (c18 : PySem.W.codeIn K cd18 "row_line" = true) (k18 : PySem.W.keepIn K (.ref f18) = true)
    (a19 : PySem.W.nsIn K mainGlobals "waiting_key" = some (some (.ref f19))) (l19 : K.lookup f19 = some ⟨oc19, od19, .func (PySem.W.fnOf "waiting_key" "waiting_key" (defArgs s_waiting_key) (defBody s_waiting_key) (defScope s_waiting_key) .none kV19 dc19 pm19 an19 cd19 ct19), sl19⟩) (c19 : PySem.W.codeIn K cd19 "waiting_key" = true) (k19 : PySem.W.keepIn K (.ref f19) = true)
    (a20 : PySem.W.nsIn K mainGlobals "key_of_row" = some (some (.ref f20))) (l20 : K.lookup f20 = some ⟨oc20, od20, .func (PySem.W.fnOf "key_of_row" "key_of_row" (defArgs s_key_of_row) (defBody s_key_of_row) (defScope s_key_of_row) .none kV20 dc20 pm20 an20 cd20 ct20), sl20⟩) (c20 : PySem.W.codeIn K cd20 "key_of_row" = true) (k20 : PySem.W.keepIn K (.ref f20) = true)
    (a21 : PySem.W.nsIn K mainGlobals "check_ascending" = some (some (.ref f21))) (l21 : K.lookup f21 = some ⟨oc21, od21, .func (PySem.W.fnOf "check_ascending" "check_ascending" (defArgs s_check_ascending) (defBody s_check_ascending) (defScope s_check_ascending) .none kV21 dc21 pm21 an21 cd21 ct21), sl21⟩) (c21 : PySem.W.codeIn K cd21 "check_ascending" = true) (k21 : PySem.W.keepIn K (.ref f21) = true)
    (a22 : PySem.W.nsIn K mainGlobals "show_table" = some (some (.ref f22))) (l22 : K.lookup f22 = some ⟨oc22, od22, .func (PySem.W.fnOf "show_table" "show_table" (defArgs s_show_table) (defBody s_show_table) (defScope s_show_table) .none kV22 dc22 pm22 an22 cd22 ct22), sl22⟩) (c22 : PySem.W.codeIn K cd22 "show_table" = true) (k22 : PySem.W.keepIn K (.ref f22) = true)
    (a23 : PySem.W.nsIn K mainGlobals "read_table" = some (some (.ref f23))) (l23 : K.lookup f23 = some ⟨oc23, od23, .func (PySem.W.fnOf "read_table" "read_table" (defArgs s_read_table) (defBody s_read_table) (defScope s_read_table) .none kV23 dc23 pm23 an23 cd23 ct23), sl23⟩) (c23 : PySem.W.codeIn K cd23 "read_table" = true) (k23 : PySem.W.keepIn K (.ref f23) = true)
    (a24 : PySem.W.nsIn K mainGlobals "_law_numbers" = some (some (.ref f24))) (l24 : K.lookup f24 = some ⟨oc24, od24, .func (PySem.W.fnOf "_law_numbers" "_law_numbers" (defArgs s__law_numbers) (defBody s__law_numbers) (defScope s__law_numbers) .none kV24 dc24 pm24 an24 cd24 ct24), sl24⟩) (c24 : PySem.W.codeIn K cd24 "_law_numbers" = true) (k24 : PySem.W.keepIn K (.ref f24) = true)
    (a25 : PySem.W.nsIn K mainGlobals "_law_words" = some (some (.ref f25))) (l25 : K.lookup f25 = some ⟨oc25, od25, .func (PySem.W.fnOf "_law_words" "_law_words" (defArgs s__law_words) (defBody s__law_words) (defScope s__law_words) .none kV25 dc25 pm25 an25 cd25 ct25), sl25⟩) (c25 : PySem.W.codeIn K cd25 "_law_words" = true) (k25 : PySem.W.keepIn K (.ref f25) = true)
    (a26 : PySem.W.nsIn K mainGlobals "_law_number" = some (some (.ref f26))) (l26 : K.lookup f26 = some ⟨oc26, od26, .func (PySem.W.fnOf "_law_number" "_law_number" (defArgs s__law_number) (defBody s__law_number) (defScope s__law_number) .none kV26 dc26 pm26 an26 cd26 ct26), sl26⟩) (c26 : PySem.W.codeIn K cd26 "_law_number" = true) (k26 : PySem.W.keepIn K (.ref f26) = true)
    (a27 : PySem.W.nsIn K mainGlobals "_law_rising" = some (some (.ref f27))) (l27 : K.lookup f27 = some ⟨oc27, od27, .func (PySem.W.fnOf "_law_rising" "_law_rising" (defArgs s__law_rising) (defBody s__law_rising) (defScope s__law_rising) .none kV27 dc27 pm27 an27 cd27 ct27), sl27⟩) (c27 : PySem.W.codeIn K cd27 "_law_rising" = true) (k27 : PySem.W.keepIn K (.ref f27) = true)
    (a28 : PySem.W.nsIn K mainGlobals "_law_is_label" = some (some (.ref f28))) (l28 : K.lookup f28 = some ⟨oc28, od28, .func (PySem.W.fnOf "_law_is_label" "_law_is_label" (defArgs s__law_is_label) (defBody s__law_is_label) (defScope s__law_is_label) .none kV28 dc28 pm28 an28 cd28 ct28), sl28⟩) (c28 : PySem.W.codeIn K cd28 "_law_is_label" = true) (k28 : PySem.W.keepIn K (.ref f28) = true)
    (a29 : PySem.W.nsIn K mainGlobals "_law_atoms_told" = some (some (.ref f29))) (l29 : K.lookup f29 = some ⟨oc29, od29, .func (PySem.W.fnOf "_law_atoms_told" "_law_atoms_told" (defArgs s__law_atoms_told) (defBody s__law_atoms_told) (defScope s__law_atoms_told) .none kV29 dc29 pm29 an29 cd29 ct29), sl29⟩) (c29 : PySem.W.codeIn K cd29 "_law_atoms_told" = true) (k29 : PySem.W.keepIn K (.ref f29) = true)
    (a30 : PySem.W.nsIn K mainGlobals "_law_kind_told" = some (some (.ref f30))) (l30 : K.lookup f30 = some ⟨oc30, od30, .func (PySem.W.fnOf "_law_kind_told" "_law_kind_told" (defArgs s__law_kind_told) (defBody s__law_kind_told) (defScope s__law_kind_told) .none kV30 dc30 pm30 an30 cd30 ct30), sl30⟩) (c30 : PySem.W.codeIn K cd30 "_law_kind_told" = true) (k30 : PySem.W.keepIn K (.ref f30) = true)
    (a31 : PySem.W.nsIn K mainGlobals "_law_waiting_told" = some (some (.ref f31))) (l31 : K.lookup f31 = some ⟨oc31, od31, .func (PySem.W.fnOf "_law_waiting_told" "_law_waiting_told" (defArgs s__law_waiting_told) (defBody s__law_waiting_told) (defScope s__law_waiting_told) .none kV31 dc31 pm31 an31 cd31 ct31), sl31⟩) (c31 : PySem.W.codeIn K cd31 "_law_waiting_told" = true) (k31 : PySem.W.keepIn K (.ref f31) = true)
    (a32 : PySem.W.nsIn K mainGlobals "_law_row_told" = some (some (.ref f32))) (l32 : K.lookup f32 = some ⟨oc32, od32, .func (PySem.W.fnOf "_law_row_told" "_law_row_told" (defArgs s__law_row_told) (defBody s__law_row_told) (defScope s__law_row_told) .none kV32 dc32 pm32 an32 cd32 ct32), sl32⟩) (c32 : PySem.W.codeIn K cd32 "_law_row_told" = true) (k32 : PySem.W.keepIn K (.ref f32) = true)
    (a33 : PySem.W.nsIn K mainGlobals "_law_kind_words" = some (some (.ref f33))) (l33 : K.lookup f33 = some ⟨oc33, od33, .func (PySem.W.fnOf "_law_kind_words" "_law_kind_words" (defArgs s__law_kind_words) (defBody s__law_kind_words) (defScope s__law_kind_words) .none kV33 dc33 pm33 an33 cd33 ct33), sl33⟩) (c33 : PySem.W.codeIn K cd33 "_law_kind_words" = true) (k33 : PySem.W.keepIn K (.ref f33) = true)
    (a34 : PySem.W.nsIn K mainGlobals "_law_waiting_words" = some (some (.ref f34))) (l34 : K.lookup f34 = some ⟨oc34, od34, .func (PySem.W.fnOf "_law_waiting_words" "_law_waiting_words" (defArgs s__law_waiting_words) (defBody s__law_waiting_words) (defScope s__law_waiting_words) .none kV34 dc34 pm34 an34 cd34 ct34), sl34⟩) (c34 : PySem.W.codeIn K cd34 "_law_waiting_words" = true) (k34 : PySem.W.keepIn K (.ref f34) = true)
    (a35 : PySem.W.nsIn K mainGlobals "_law_row_key" = some (some (.ref f35))) (l35 : K.lookup f35 = some ⟨oc35, od35, .func (PySem.W.fnOf "_law_row_key" "_law_row_key" (defArgs s__law_row_key) (defBody s__law_row_key) (defScope s__law_row_key) .none kV35 dc35 pm35 an35 cd35 ct35), sl35⟩) (c35 : PySem.W.codeIn K cd35 "_law_row_key" = true) (k35 : PySem.W.keepIn K (.ref f35) = true)
    (a36 : PySem.W.nsIn K mainGlobals "_law_some_atoms" = some (some (.ref f36))) (l36 : K.lookup f36 = some ⟨oc36, od36, .func (PySem.W.fnOf "_law_some_atoms" "_law_some_atoms" (defArgs s__law_some_atoms) (defBody s__law_some_atoms) (defScope s__law_some_atoms) .none kV36 dc36 pm36 an36 cd36 ct36), sl36⟩) (c36 : PySem.W.codeIn K cd36 "_law_some_atoms" = true) (k36 : PySem.W.keepIn K (.ref f36) = true)
    (a37 : PySem.W.nsIn K mainGlobals "_law_some_rows" = some (some (.ref f37))) (l37 : K.lookup f37 = some ⟨oc37, od37, .func (PySem.W.fnOf "_law_some_rows" "_law_some_rows" (defArgs s__law_some_rows) (defBody s__law_some_rows) (defScope s__law_some_rows) .none kV37 dc37 pm37 an37 cd37 ct37), sl37⟩) (c37 : PySem.W.codeIn K cd37 "_law_some_rows" = true) (k37 : PySem.W.keepIn K (.ref f37) = true)
    (a38 : PySem.W.nsIn K mainGlobals "_law_note" = some (some (.ref f38))) (l38 : K.lookup f38 = some ⟨oc38, od38, .func (PySem.W.fnOf "_law_note" "_law_note" (defArgs s__law_note) (defBody s__law_note) (defScope s__law_note) .none kV38 dc38 pm38 an38 cd38 ct38), sl38⟩) (c38 : PySem.W.codeIn K cd38 "_law_note" = true) (k38 : PySem.W.keepIn K (.ref f38) = true)
    (a39 : PySem.W.nsIn K mainGlobals "_law_due" = some (some (.ref f39))) (l39 : K.lookup f39 = some ⟨oc39, od39, .func (PySem.W.fnOf "_law_due" "_law_due" (defArgs s__law_due) (defBody s__law_due) (defScope s__law_due) .none kV39 dc39 pm39 an39 cd39 ct39), sl39⟩) (c39 : PySem.W.codeIn K cd39 "_law_due" = true) (k39 : PySem.W.keepIn K (.ref f39) = true)
    (a40 : PySem.W.nsIn K mainGlobals "_law_texts" = some (some (.ref f40))) (l40 : K.lookup f40 = some ⟨oc40, od40, .func (PySem.W.fnOf "_law_texts" "_law_texts" (defArgs s__law_texts) (defBody s__law_texts) (defScope s__law_texts) .none kV40 dc40 pm40 an40 cd40 ct40), sl40⟩) (c40 : PySem.W.codeIn K cd40 "_law_texts" = true) (k40 : PySem.W.keepIn K (.ref f40) = true)
    (a41 : PySem.W.nsIn K mainGlobals "_law_row_text" = some (some (.ref f41))) (l41 : K.lookup f41 = some ⟨oc41, od41, .func (PySem.W.fnOf "_law_row_text" "_law_row_text" (defArgs s__law_row_text) (defBody s__law_row_text) (defScope s__law_row_text) .none kV41 dc41 pm41 an41 cd41 ct41), sl41⟩) (c41 : PySem.W.codeIn K cd41 "_law_row_text" = true) (k41 : PySem.W.keepIn K (.ref f41) = true)
    (a42 : PySem.W.nsIn K mainGlobals "law" = some (some (.ref f42))) (l42 : K.lookup f42 = some ⟨oc42, od42, .func (PySem.W.fnOf "law" "law" (defArgs s_law) (defBody s_law) (defScope s_law) .none kV42 dc42 pm42 an42 cd42 ct42), sl42⟩) (c42 : PySem.W.codeIn K cd42 "law" = true) (k42 : PySem.W.keepIn K (.ref f42) = true)
    {nm q : Str} {N : Addr} {bs : List Value} {bm : List Value} {sn : List Str} {sub : List Value} {ab : Bool} {col : Option Bool} {dd : Option Addr} {m0 m1 m2 m3 m5 : Option Value}
    (aC : PySem.W.nsIn K mainGlobals "BadLine" = some (some (.ref C))) (aT : PySem.W.nsIn K mainGlobals "BadText" = some (some (.ref BT)))
    (xL : K.lookup C = some (excClassObj nm q C N bs bm true sn sub ab col dd m0 m1 m2 m3 m5 "ValueError.__new__")) (xB : PySem.HandSPX.refsVE bm = true)
    {nmB qB : Str} {NB : Addr} {bsB : List Value} {bmB : List Value} {snB : List Str} {subB : List Value} {abB : Bool} {colB : Option Bool} {ddB : Option Addr} {n0 n1 n2 n3 n5 : Option Value} (xL2 : K.lookup BT = some (excClassObj nmB qB BT NB bsB bmB true snB subB abB colB ddB n0 n1 n2 n3 n5 "ValueError.__new__"))
    (sa : PySem.W.findIn K (.ref C) "__setattr__" = some (some (.builtin "object.__setattr__")))
    (exC : PySem.W.subIn K (.ref C) (.type "BaseException") = some true)
    (tyC : PySem.W.typeIn K (.ref C) = some (.type "type"))
    (kC : PySem.W.keepIn K (.ref C) = true)
    (nol : PySem.W.findIn K (.ref C) "line" = some none)
    (i1 : PySem.W.findIn K (.ref C) "__init__" = some (some (.ref f43)))
    (i2 : PySem.W.typeIn K (.ref f43) = some (.type "function"))
    (lI : K.lookup f43 = some ⟨oc43, od43, .func (PySem.W.fnOf "__init__" "BadLine.__init__" (defArgs s_init) (defBody s_init) (defScope s_init) .none kV43 dc43 pm43 an43 cd43 ct43), sl43⟩)
    (cI : PySem.W.codeIn K cd43 "BadLine.__init__" = true)
    (kI : PySem.W.keepIn K (.ref f43) = true)
    (ga : PySem.W.findIn K (.ref C) "__getattribute__" = some (some (.builtin "BaseException.__getattribute__")))
    (gg : PySem.W.findIn K (.ref C) "__getattr__" = some none)
    (ha : PySem.W.findIn K (.ref C) "__class__" = some (some (.builtin "object.__class__")))
    (hn : PySem.W.specialIn K (.builtin "object.__class__") "__get__" = some (some (.builtin "getset_descriptor.__get__")))
    (ht : PySem.W.takesIn K (.builtin "object.__class__") = some true)
    (hm : PySem.W.mroIn K C (.type "object") = some true)
    (hd : PySem.W.hasDictIn K C = true)
    (sC : PySem.W.subIn K (.ref C) (.ref C) = some true)
    (tyB : PySem.W.typeIn K (.ref BT) = some (.type "type"))
    (sB : PySem.W.subIn K (.ref C) (.ref BT) = some false)
    (neC : (C == BT) = false)
    (nb : PySem.W.nsIn K cStatics sharingNotToldKey = some none)
    (z_all : PySem.W.nsIn K mainGlobals "all" = some none)
    (z_enumerate : PySem.W.nsIn K mainGlobals "enumerate" = some none)
    (z_int : PySem.W.nsIn K mainGlobals "int" = some none)
    (z_isinstance : PySem.W.nsIn K mainGlobals "isinstance" = some none)
    (z_len : PySem.W.nsIn K mainGlobals "len" = some none)
    (z_list : PySem.W.nsIn K mainGlobals "list" = some none)
    (z_range : PySem.W.nsIn K mainGlobals "range" = some none)
    (z_sorted : PySem.W.nsIn K mainGlobals "sorted" = some none)
    (z_str : PySem.W.nsIn K mainGlobals "str" = some none)
    (z_tuple : PySem.W.nsIn K mainGlobals "tuple" = some none)
    (z_zip : PySem.W.nsIn K mainGlobals "zip" = some none)
    {u_COLON : Value} (g_COLON : PySem.W.nsIn K mainGlobals "COLON" = some (some u_COLON)) (r_COLON : RelV (.str ":") u_COLON)
    {u_FIGURES : Value} (g_FIGURES : PySem.W.nsIn K mainGlobals "FIGURES" = some (some u_FIGURES)) (r_FIGURES : RelV (.str "0123456789") u_FIGURES)
    {u_LETTERS : Value} (g_LETTERS : PySem.W.nsIn K mainGlobals "LETTERS" = some (some u_LETTERS)) (r_LETTERS : RelV (.str "abcdefghijklmnopqrstuvwxyz") u_LETTERS)
    {u_MOST_FIGURES : Value} (g_MOST_FIGURES : PySem.W.nsIn K mainGlobals "MOST_FIGURES" = some (some u_MOST_FIGURES)) (r_MOST_FIGURES : RelV (.int 6) u_MOST_FIGURES)
    {u_MOST_SIGNS : Value} (g_MOST_SIGNS : PySem.W.nsIn K mainGlobals "MOST_SIGNS" = some (some u_MOST_SIGNS)) (r_MOST_SIGNS : RelV (.int 8) u_MOST_SIGNS)
    {u_NOTHING : Value} (g_NOTHING : PySem.W.nsIn K mainGlobals "NOTHING" = some (some u_NOTHING)) (r_NOTHING : RelV (.str "-") u_NOTHING)
    {u_PARTED : Value} (g_PARTED : PySem.W.nsIn K mainGlobals "PARTED" = some (some u_PARTED)) (r_PARTED : RelV (.str ";") u_PARTED)
    {u_SLASH : Value} (g_SLASH : PySem.W.nsIn K mainGlobals "SLASH" = some (some u_SLASH)) (r_SLASH : RelV (.str "/") u_SLASH)
    {a_WORDS : Addr} {d_WORDS : Option Addr} {n_WORDS : Nat} {s_WORDS : Array (Option Value)} {y0_WORDS y1_WORDS y2_WORDS : Value} (g_WORDS : PySem.W.nsIn K mainGlobals "WORDS" = some (some (.ref a_WORDS))) (l_WORDS : K.lookup a_WORDS = some ⟨.type "tuple", d_WORDS, .seq #[y0_WORDS, y1_WORDS, y2_WORDS] n_WORDS, s_WORDS⟩) (r0_WORDS : RelV (.str "and") y0_WORDS) (r1_WORDS : RelV (.str "or") y1_WORDS) (r2_WORDS : RelV (.str "not") y2_WORDS) :
    ∃ fd : FuncData, (∀ (s : Shared) (v : Value), BindsTo s fd ⟨[v], []⟩ [("script", v)]) ∧ ∀ base : Heap, K.In base → base.Ns mainGlobals mg → FnOk l.prog w K mg base CX0 14 fa fd ["script"] (spLaw K) := by
  have e := hfa.symm.trans (PySem.W.mg_of X G a42)
  cases e
  have F0 := fun_mk (st := s_lines_of) l0 c0 k0
  have A0 : Fs K mg "lines_of" s_lines_of ["text"] f0 := ⟨⟨_, F0, F0.binds (ps := ["text"]) fun _ _ _ _ _ _ us hl => match us, hl with | [_], _ => rfl⟩, PySem.W.mg_of X G a0⟩
  have F1 := fun_mk (st := s_words_of) l1 c1 k1
  have A1 : Fs K mg "words_of" s_words_of ["line"] f1 := ⟨⟨_, F1, F1.binds (ps := ["line"]) fun _ _ _ _ _ _ us hl => match us, hl with | [_], _ => rfl⟩, PySem.W.mg_of X G a1⟩
  have F2 := fun_mk (st := s_number_of) l2 c2 k2
  have A2 : Fs K mg "number_of" s_number_of ["word"] f2 := ⟨⟨_, F2, F2.binds (ps := ["word"]) fun _ _ _ _ _ _ us hl => match us, hl with | [_], _ => rfl⟩, PySem.W.mg_of X G a2⟩
  have F3 := fun_mk (st := s_numbers_of) l3 c3 k3
  have A3 : Fs K mg "numbers_of" s_numbers_of ["words"] f3 := ⟨⟨_, F3, F3.binds (ps := ["words"]) fun _ _ _ _ _ _ us hl => match us, hl with | [_], _ => rfl⟩, PySem.W.mg_of X G a3⟩
  have F4 := fun_mk (st := s_is_rising) l4 c4 k4
  have A4 : Fs K mg "is_rising" s_is_rising ["listed"] f4 := ⟨⟨_, F4, F4.binds (ps := ["listed"]) fun _ _ _ _ _ _ us hl => match us, hl with | [_], _ => rfl⟩, PySem.W.mg_of X G a4⟩
  have F5 := fun_mk (st := s_read_lines) l5 c5 k5
  have A5 : Fs K mg "read_lines" s_read_lines ["text", "form"] f5 := ⟨⟨_, F5, F5.binds (ps := ["text", "form"]) fun _ _ _ _ _ _ us hl => match us, hl with | [_, _], _ => rfl⟩, PySem.W.mg_of X G a5⟩
  have F6 := fun_mk (st := s_read_any) l6 c6 k6
  have A6 : Fs K mg "read_any" s_read_any ["text", "form"] f6 := ⟨⟨_, F6, F6.binds (ps := ["text", "form"]) fun _ _ _ _ _ _ us hl => match us, hl with | [_, _], _ => rfl⟩, PySem.W.mg_of X G a6⟩
  have F7 := fun_mk (st := s_first_fallen) l7 c7 k7
  have A7 : Fs K mg "first_fallen" s_first_fallen ["keys"] f7 := ⟨⟨_, F7, F7.binds (ps := ["keys"]) fun _ _ _ _ _ _ us hl => match us, hl with | [_], _ => rfl⟩, PySem.W.mg_of X G a7⟩
  have F8 := fun_mk (st := s_are_letters) l8 c8 k8
  have A8 : Fs K mg "are_letters" s_are_letters ["text"] f8 := ⟨⟨_, F8, F8.binds (ps := ["text"]) fun _ _ _ _ _ _ us hl => match us, hl with | [_], _ => rfl⟩, PySem.W.mg_of X G a8⟩
  have F9 := fun_mk (st := s_is_label) l9 c9 k9
  have A9 : Fs K mg "is_label" s_is_label ["value"] f9 := ⟨⟨_, F9, F9.binds (ps := ["value"]) fun _ _ _ _ _ _ us hl => match us, hl with | [_], _ => rfl⟩, PySem.W.mg_of X G a9⟩
  have F10 := fun_mk (st := s_atom_words) l10 c10 k10
  have A10 : Fs K mg "atom_words" s_atom_words ["atoms"] f10 := ⟨⟨_, F10, F10.binds (ps := ["atoms"]) fun _ _ _ _ _ _ us hl => match us, hl with | [_], _ => rfl⟩, PySem.W.mg_of X G a10⟩
  have F11 := fun_mk (st := s_kind_words) l11 c11 k11
  have A11 : Fs K mg "kind_words" s_kind_words ["kind"] f11 := ⟨⟨_, F11, F11.binds (ps := ["kind"]) fun _ _ _ _ _ _ us hl => match us, hl with | [_], _ => rfl⟩, PySem.W.mg_of X G a11⟩
  have F12 := fun_mk (st := s_waiting_words) l12 c12 k12
  have A12 : Fs K mg "waiting_words" s_waiting_words ["waiting"] f12 := ⟨⟨_, F12, F12.binds (ps := ["waiting"]) fun _ _ _ _ _ _ us hl => match us, hl with | [_], _ => rfl⟩, PySem.W.mg_of X G a12⟩
  have F13 := fun_mk (st := s_row_text) l13 c13 k13
  have A13 : Fs K mg "row_text" s_row_text ["row"] f13 := ⟨⟨_, F13, F13.binds (ps := ["row"]) fun _ _ _ _ _ _ us hl => match us, hl with | [_], _ => rfl⟩, PySem.W.mg_of X G a13⟩
  have F14 := fun_mk (st := s_parts_at) l14 c14 k14
  have A14 : Fs K mg "parts_at" s_parts_at ["words", "sign"] f14 := ⟨⟨_, F14, F14.binds (ps := ["words", "sign"]) fun _ _ _ _ _ _ us hl => match us, hl with | [_, _], _ => rfl⟩, PySem.W.mg_of X G a14⟩
  have F15 := fun_mk (st := s_atoms_told) l15 c15 k15
  have A15 : Fs K mg "atoms_told" s_atoms_told ["words"] f15 := ⟨⟨_, F15, F15.binds (ps := ["words"]) fun _ _ _ _ _ _ us hl => match us, hl with | [_], _ => rfl⟩, PySem.W.mg_of X G a15⟩
  have F16 := fun_mk (st := s_kind_told) l16 c16 k16
  have A16 : Fs K mg "kind_told" s_kind_told ["words"] f16 := ⟨⟨_, F16, F16.binds (ps := ["words"]) fun _ _ _ _ _ _ us hl => match us, hl with | [_], _ => rfl⟩, PySem.W.mg_of X G a16⟩
  have F17 := fun_mk (st := s_waiting_told) l17 c17 k17
  have A17 : Fs K mg "waiting_told" s_waiting_told ["words"] f17 := ⟨⟨_, F17, F17.binds (ps := ["words"]) fun _ _ _ _ _ _ us hl => match us, hl with | [_], _ => rfl⟩, PySem.W.mg_of X G a17⟩
  have F18 := fun_mk (st := s_row_line) l18 c18 k18
  have A18 : Fs K mg "row_line" s_row_line ["line"] f18 := ⟨⟨_, F18, F18.binds (ps := ["line"]) fun _ _ _ _ _ _ us hl => match us, hl with | [_], _ => rfl⟩, PySem.W.mg_of X G a18⟩
  have F19 := fun_mk (st := s_waiting_key) l19 c19 k19
  have A19 : Fs K mg "waiting_key" s_waiting_key ["waiting"] f19 := ⟨⟨_, F19, F19.binds (ps := ["waiting"]) fun _ _ _ _ _ _ us hl => match us, hl with | [_], _ => rfl⟩, PySem.W.mg_of X G a19⟩
  have F20 := fun_mk (st := s_key_of_row) l20 c20 k20
  have A20 : Fs K mg "key_of_row" s_key_of_row ["row"] f20 := ⟨⟨_, F20, F20.binds (ps := ["row"]) fun _ _ _ _ _ _ us hl => match us, hl with | [_], _ => rfl⟩, PySem.W.mg_of X G a20⟩
  have F21 := fun_mk (st := s_check_ascending) l21 c21 k21
  have A21 : Fs K mg "check_ascending" s_check_ascending ["keys", "before"] f21 := ⟨⟨_, F21, F21.binds (ps := ["keys", "before"]) fun _ _ _ _ _ _ us hl => match us, hl with | [_, _], _ => rfl⟩, PySem.W.mg_of X G a21⟩
  have F22 := fun_mk (st := s_show_table) l22 c22 k22
  have A22 : Fs K mg "show_table" s_show_table ["table"] f22 := ⟨⟨_, F22, F22.binds (ps := ["table"]) fun _ _ _ _ _ _ us hl => match us, hl with | [_], _ => rfl⟩, PySem.W.mg_of X G a22⟩
  have F23 := fun_mk (st := s_read_table) l23 c23 k23
  have A23 : Fs K mg "read_table" s_read_table ["text"] f23 := ⟨⟨_, F23, F23.binds (ps := ["text"]) fun _ _ _ _ _ _ us hl => match us, hl with | [_], _ => rfl⟩, PySem.W.mg_of X G a23⟩
  have F24 := fun_mk (st := s__law_numbers) l24 c24 k24
  have A24 : Fs K mg "_law_numbers" s__law_numbers ["script", "at", "many"] f24 := ⟨⟨_, F24, F24.binds (ps := ["script", "at", "many"]) fun _ _ _ _ _ _ us hl => match us, hl with | [_, _, _], _ => rfl⟩, PySem.W.mg_of X G a24⟩
  have F25 := fun_mk (st := s__law_words) l25 c25 k25
  have A25 : Fs K mg "_law_words" s__law_words ["script", "at", "count"] f25 := ⟨⟨_, F25, F25.binds (ps := ["script", "at", "count"]) fun _ _ _ _ _ _ us hl => match us, hl with | [_, _, _], _ => rfl⟩, PySem.W.mg_of X G a25⟩
  have F26 := fun_mk (st := s__law_number) l26 c26 k26
  have A26 : Fs K mg "_law_number" s__law_number ["word"] f26 := ⟨⟨_, F26, F26.binds (ps := ["word"]) fun _ _ _ _ _ _ us hl => match us, hl with | [_], _ => rfl⟩, PySem.W.mg_of X G a26⟩
  have F27 := fun_mk (st := s__law_rising) l27 c27 k27
  have A27 : Fs K mg "_law_rising" s__law_rising ["keys"] f27 := ⟨⟨_, F27, F27.binds (ps := ["keys"]) fun _ _ _ _ _ _ us hl => match us, hl with | [_], _ => rfl⟩, PySem.W.mg_of X G a27⟩
  have F28 := fun_mk (st := s__law_is_label) l28 c28 k28
  have A28 : Fs K mg "_law_is_label" s__law_is_label ["word"] f28 := ⟨⟨_, F28, F28.binds (ps := ["word"]) fun _ _ _ _ _ _ us hl => match us, hl with | [_], _ => rfl⟩, PySem.W.mg_of X G a28⟩
  have F29 := fun_mk (st := s__law_atoms_told) l29 c29 k29
  have A29 : Fs K mg "_law_atoms_told" s__law_atoms_told ["words"] f29 := ⟨⟨_, F29, F29.binds (ps := ["words"]) fun _ _ _ _ _ _ us hl => match us, hl with | [_], _ => rfl⟩, PySem.W.mg_of X G a29⟩
  have F30 := fun_mk (st := s__law_kind_told) l30 c30 k30
  have A30 : Fs K mg "_law_kind_told" s__law_kind_told ["words"] f30 := ⟨⟨_, F30, F30.binds (ps := ["words"]) fun _ _ _ _ _ _ us hl => match us, hl with | [_], _ => rfl⟩, PySem.W.mg_of X G a30⟩
  have F31 := fun_mk (st := s__law_waiting_told) l31 c31 k31
  have A31 : Fs K mg "_law_waiting_told" s__law_waiting_told ["words"] f31 := ⟨⟨_, F31, F31.binds (ps := ["words"]) fun _ _ _ _ _ _ us hl => match us, hl with | [_], _ => rfl⟩, PySem.W.mg_of X G a31⟩
  have F32 := fun_mk (st := s__law_row_told) l32 c32 k32
  have A32 : Fs K mg "_law_row_told" s__law_row_told ["line"] f32 := ⟨⟨_, F32, F32.binds (ps := ["line"]) fun _ _ _ _ _ _ us hl => match us, hl with | [_], _ => rfl⟩, PySem.W.mg_of X G a32⟩
  have F33 := fun_mk (st := s__law_kind_words) l33 c33 k33
  have A33 : Fs K mg "_law_kind_words" s__law_kind_words ["kind"] f33 := ⟨⟨_, F33, F33.binds (ps := ["kind"]) fun _ _ _ _ _ _ us hl => match us, hl with | [_], _ => rfl⟩, PySem.W.mg_of X G a33⟩
  have F34 := fun_mk (st := s__law_waiting_words) l34 c34 k34
  have A34 : Fs K mg "_law_waiting_words" s__law_waiting_words ["waiting"] f34 := ⟨⟨_, F34, F34.binds (ps := ["waiting"]) fun _ _ _ _ _ _ us hl => match us, hl with | [_], _ => rfl⟩, PySem.W.mg_of X G a34⟩
  have F35 := fun_mk (st := s__law_row_key) l35 c35 k35
  have A35 : Fs K mg "_law_row_key" s__law_row_key ["row"] f35 := ⟨⟨_, F35, F35.binds (ps := ["row"]) fun _ _ _ _ _ _ us hl => match us, hl with | [_], _ => rfl⟩, PySem.W.mg_of X G a35⟩
  have F36 := fun_mk (st := s__law_some_atoms) l36 c36 k36
  have A36 : Fs K mg "_law_some_atoms" s__law_some_atoms ["number", "most"] f36 := ⟨⟨_, F36, F36.binds (ps := ["number", "most"]) fun _ _ _ _ _ _ us hl => match us, hl with | [_, _], _ => rfl⟩, PySem.W.mg_of X G a36⟩
  have F37 := fun_mk (st := s__law_some_rows) l37 c37 k37
  have A37 : Fs K mg "_law_some_rows" s__law_some_rows ["script", "at"] f37 := ⟨⟨_, F37, F37.binds (ps := ["script", "at"]) fun _ _ _ _ _ _ us hl => match us, hl with | [_, _], _ => rfl⟩, PySem.W.mg_of X G a37⟩
  have F38 := fun_mk (st := s__law_note) l38 c38 k38
  have A38 : Fs K mg "_law_note" s__law_note ["text"] f38 := ⟨⟨_, F38, F38.binds (ps := ["text"]) fun _ _ _ _ _ _ us hl => match us, hl with | [_], _ => rfl⟩, PySem.W.mg_of X G a38⟩
  have F39 := fun_mk (st := s__law_due) l39 c39 k39
  have A39 : Fs K mg "_law_due" s__law_due ["text"] f39 := ⟨⟨_, F39, F39.binds (ps := ["text"]) fun _ _ _ _ _ _ us hl => match us, hl with | [_], _ => rfl⟩, PySem.W.mg_of X G a39⟩
  have F40 := fun_mk (st := s__law_texts) l40 c40 k40
  have A40 : Fs K mg "_law_texts" s__law_texts ["text", "numbers", "pieces"] f40 := ⟨⟨_, F40, F40.binds (ps := ["text", "numbers", "pieces"]) fun _ _ _ _ _ _ us hl => match us, hl with | [_, _, _], _ => rfl⟩, PySem.W.mg_of X G a40⟩
  have F41 := fun_mk (st := s__law_row_text) l41 c41 k41
  have A41 : Fs K mg "_law_row_text" s__law_row_text ["row"] f41 := ⟨⟨_, F41, F41.binds (ps := ["row"]) fun _ _ _ _ _ _ us hl => match us, hl with | [_], _ => rfl⟩, PySem.W.mg_of X G a41⟩
  have F42 := fun_mk (st := s_law) l42 c42 k42
  have A42 : Fs K mg "law" s_law ["script"] fa := ⟨⟨_, F42, F42.binds (ps := ["script"]) fun _ _ _ _ _ _ us hl => match us, hl with | [_], _ => rfl⟩, PySem.W.mg_of X G a42⟩
  have FI := fun_mk (st := s_init) lI cI kI
  have hc : (PySem.W.clsIn K C).isSome = true := by
    unfold PySem.W.clsIn
    rw [xL]
    rfl
  have hc2 : (PySem.W.clsIn K BT).isSome = true := by
    unfold PySem.W.clsIn
    rw [xL2]
    rfl
  have kit : PySem.W.kitOne K (.ref C) (.ref BT) = some false := kit_no neC hc2 tyB sB
  have hT : Tx K mg := { b_all := PySem.W.mg_none_of X G z_all, b_enumerate := PySem.W.mg_none_of X G z_enumerate, b_int := PySem.W.mg_none_of X G z_int, b_isinstance := PySem.W.mg_none_of X G z_isinstance, b_len := PySem.W.mg_none_of X G z_len, b_list := PySem.W.mg_none_of X G z_list, b_range := PySem.W.mg_none_of X G z_range, b_sorted := PySem.W.mg_none_of X G z_sorted, b_str := PySem.W.mg_none_of X G z_str, b_tuple := PySem.W.mg_none_of X G z_tuple, b_zip := PySem.W.mg_none_of X G z_zip, g_COLON := ⟨_, PySem.W.mg_of X G g_COLON, r_COLON⟩, g_FIGURES := ⟨_, PySem.W.mg_of X G g_FIGURES, r_FIGURES⟩, g_LETTERS := ⟨_, PySem.W.mg_of X G g_LETTERS, r_LETTERS⟩, g_MOST_FIGURES := ⟨_, PySem.W.mg_of X G g_MOST_FIGURES, r_MOST_FIGURES⟩, g_MOST_SIGNS := ⟨_, PySem.W.mg_of X G g_MOST_SIGNS, r_MOST_SIGNS⟩, g_NOTHING := ⟨_, PySem.W.mg_of X G g_NOTHING, r_NOTHING⟩, g_PARTED := ⟨_, PySem.W.mg_of X G g_PARTED, r_PARTED⟩, g_SLASH := ⟨_, PySem.W.mg_of X G g_SLASH, r_SLASH⟩, g_WORDS := ⟨.ref a_WORDS, ⟨_, PySem.W.mg_of X G g_WORDS, rfl⟩, fun _ => .tup (.inr ⟨_, _, _, l_WORDS, rfl, rfl, Nat.le_of_ble_eq_true rfl, .cons r0_WORDS (.cons r1_WORDS (.cons r2_WORDS (.nil)))⟩) (.cons (.val _) (.cons (.val _) (.cons (.val _) (.nil))))⟩ }
  have hE : Err K mg C BT f43 := { g := PySem.W.mg_of X G aC, gT := PySem.W.mg_of X G aT, oex := ⟨⟨_, _, _, _, _, _, _, _, _, _, _, _, _, _, _, xL, xB⟩, sa, exC, tyC, kC⟩, no := nol, i1 := i1, i2 := i2, ini := ⟨_, FI, FI.binds (ps := ["self", "line"]) fun _ _ _ _ _ _ us hl => match us, hl with | [_, _], _ => rfl⟩, c := ⟨hc, ga, gg, exC, ha, hn, ht, hm⟩, xf := ⟨ga, gg, exC, hd⟩, exm := exm_self exC hc tyC sC, kit := kit }
  exact ⟨PySem.W.fnOf "law" "law" (defArgs s_law) (defBody s_law) (defScope s_law) .none kV42 dc42 pm42 an42 cd42 ct42, fun s v => .of_eq rfl, fun base _ _ => law_ok hT nb hE A0 A1 A2 A3 A4 A5 A6 A7 A8 A9 A10 A11 A12 A13 A14 A15 A16 A17 A18 A19 A20 A21 A22 A23 A24 A25 A26 A27 A28 A29 A30 A31 A32 A33 A34 A35 A36 A37 A38 A39 A40 A41 A42 F42⟩
end KN

set_option Elab.async false
set_option linter.all false
open PySem PySem.W PyProof.Rows
set_option maxRecDepth 100000 in
set_option maxHeartbeats 0 in
theorem PySem.Challenge.cw_treesasked_k88_notes_of_tables_holds : PySem.Challenge.rw_treesasked_k88_notes_of_tables.Holds := by
  w_on; o_law; k_head; (case hw => w_witness2)
  k_fill
  refine L2.walk_of (l := PySem.Challenge.rw_treesasked_k88_notes_of_tables) (n := 63) (k := 14) (x := "script") (CX := fun _ => L2.CX0) (sp := fun w => KN.spLaw _) rfl (by decide) rfl ⟨rfl, by decide, by decide⟩ (fun w h Y => PySem.W.kIn_of Y) ?F (fun _ _ a ns hl _ hS => ⟨a, ns, rfl, hS, hl, fun _ => rfl⟩) (fun _ _ _ _ _ h => h)
  case F =>
    intro w mg fa h KX G hmg
    refine' KN.all_mk KX G hmg ?u_a0 ?u_l0 ?u_c0 ?u_k0 ?u_a1 ?u_l1 ?u_c1 ?u_k1 ?u_a2 ?u_l2 ?u_c2 ?u_k2 ?u_a3 ?u_l3 ?u_c3 ?u_k3 ?u_a4 ?u_l4 ?u_c4 ?u_k4 ?u_a5 ?u_l5 ?u_c5 ?u_k5 ?u_a6 ?u_l6 ?u_c6 ?u_k6 ?u_a7 ?u_l7 ?u_c7 ?u_k7 ?u_a8 ?u_l8 ?u_c8 ?u_k8 ?u_a9 ?u_l9 ?u_c9 ?u_k9 ?u_a10 ?u_l10 ?u_c10 ?u_k10 ?u_a11 ?u_l11 ?u_c11 ?u_k11 ?u_a12 ?u_l12 ?u_c12 ?u_k12 ?u_a13 ?u_l13 ?u_c13 ?u_k13 ?u_a14 ?u_l14 ?u_c14 ?u_k14 ?u_a15 ?u_l15 ?u_c15 ?u_k15 ?u_a16 ?u_l16 ?u_c16 ?u_k16 ?u_a17 ?u_l17 ?u_c17 ?u_k17 ?u_a18 ?u_l18 ?u_c18 ?u_k18 ?u_a19 ?u_l19 ?u_c19 ?u_k19 ?u_a20 ?u_l20 ?u_c20 ?u_k20 ?u_a21 ?u_l21 ?u_c21 ?u_k21 ?u_a22 ?u_l22 ?u_c22 ?u_k22 ?u_a23 ?u_l23 ?u_c23 ?u_k23 ?u_a24 ?u_l24 ?u_c24 ?u_k24 ?u_a25 ?u_l25 ?u_c25 ?u_k25 ?u_a26 ?u_l26 ?u_c26 ?u_k26 ?u_a27 ?u_l27 ?u_c27 ?u_k27 ?u_a28 ?u_l28 ?u_c28 ?u_k28 ?u_a29 ?u_l29 ?u_c29 ?u_k29 ?u_a30 ?u_l30 ?u_c30 ?u_k30 ?u_a31 ?u_l31 ?u_c31 ?u_k31 ?u_a32 ?u_l32 ?u_c32 ?u_k32 ?u_a33 ?u_l33 ?u_c33 ?u_k33 ?u_a34 ?u_l34 ?u_c34 ?u_k34 ?u_a35 ?u_l35 ?u_c35 ?u_k35 ?u_a36 ?u_l36 ?u_c36 ?u_k36 ?u_a37 ?u_l37 ?u_c37 ?u_k37 ?u_a38 ?u_l38 ?u_c38 ?u_k38 ?u_a39 ?u_l39 ?u_c39 ?u_k39 ?u_a40 ?u_l40 ?u_c40 ?u_k40 ?u_a41 ?u_l41 ?u_c41 ?u_k41 ?u_a42 ?u_l42 ?u_c42 ?u_k42 ?u_aC ?u_aT ?u_xL ?u_xB ?u_xL2 ?u_sa ?u_exC ?u_tyC ?u_kC ?u_nol ?u_i1 ?u_i2 ?u_lI ?u_cI ?u_kI ?u_ga ?u_gg ?u_ha ?u_hn ?u_ht ?u_hm ?u_hd ?u_sC ?u_tyB ?u_sB ?u_neC ?u_nb ?u_z_all ?u_z_enumerate ?u_z_int ?u_z_isinstance ?u_z_len ?u_z_list ?u_z_range ?u_z_sorted ?u_z_str ?u_z_tuple ?u_z_zip ?u_g_COLON ?u_r_COLON ?u_g_FIGURES ?u_r_FIGURES ?u_g_LETTERS ?u_r_LETTERS ?u_g_MOST_FIGURES ?u_r_MOST_FIGURES ?u_g_MOST_SIGNS ?u_r_MOST_SIGNS ?u_g_NOTHING ?u_r_NOTHING ?u_g_PARTED ?u_r_PARTED ?u_g_SLASH ?u_r_SLASH ?u_g_WORDS ?u_l_WORDS ?u_r0_WORDS ?u_r1_WORDS ?u_r2_WORDS
    (case u_a0 => k_is)
    (case u_l0 => k_is)
    (case u_c0 => k_is)
    (case u_k0 => k_is)
    (case u_a1 => k_is)
    (case u_l1 => k_is)
    (case u_c1 => k_is)
    (case u_k1 => k_is)
    (case u_a2 => k_is)
    (case u_l2 => k_is)
    (case u_c2 => k_is)
    (case u_k2 => k_is)
    (case u_a3 => k_is)
    (case u_l3 => k_is)
    (case u_c3 => k_is)
    (case u_k3 => k_is)
    (case u_a4 => k_is)
    (case u_l4 => k_is)
    (case u_c4 => k_is)
    (case u_k4 => k_is)
    (case u_a5 => k_is)
    (case u_l5 => k_is)
    (case u_c5 => k_is)
    (case u_k5 => k_is)
    (case u_a6 => k_is)
    (case u_l6 => k_is)
    (case u_c6 => k_is)
    (case u_k6 => k_is)
    (case u_a7 => k_is)
    (case u_l7 => k_is)
    (case u_c7 => k_is)
    (case u_k7 => k_is)
    (case u_a8 => k_is)
    (case u_l8 => k_is)
    (case u_c8 => k_is)
    (case u_k8 => k_is)
    (case u_a9 => k_is)
    (case u_l9 => k_is)
    (case u_c9 => k_is)
    (case u_k9 => k_is)
    (case u_a10 => k_is)
    (case u_l10 => k_is)
    (case u_c10 => k_is)
    (case u_k10 => k_is)
    (case u_a11 => k_is)
    (case u_l11 => k_is)
    (case u_c11 => k_is)
    (case u_k11 => k_is)
    (case u_a12 => k_is)
    (case u_l12 => k_is)
    (case u_c12 => k_is)
    (case u_k12 => k_is)
    (case u_a13 => k_is)
    (case u_l13 => k_is)
    (case u_c13 => k_is)
    (case u_k13 => k_is)
    (case u_a14 => k_is)
    (case u_l14 => k_is)
    (case u_c14 => k_is)
    (case u_k14 => k_is)
    (case u_a15 => k_is)
    (case u_l15 => k_is)
    (case u_c15 => k_is)
    (case u_k15 => k_is)
    (case u_a16 => k_is)
    (case u_l16 => k_is)
    (case u_c16 => k_is)
    (case u_k16 => k_is)
    (case u_a17 => k_is)
    (case u_l17 => k_is)
    (case u_c17 => k_is)
    (case u_k17 => k_is)
    (case u_a18 => k_is)
    (case u_l18 => k_is)
    (case u_c18 => k_is)
    (case u_k18 => k_is)
    (case u_a19 => k_is)
    (case u_l19 => k_is)
    (case u_c19 => k_is)
    (case u_k19 => k_is)
    (case u_a20 => k_is)
    (case u_l20 => k_is)
    (case u_c20 => k_is)
    (case u_k20 => k_is)
    (case u_a21 => k_is)
    (case u_l21 => k_is)
    (case u_c21 => k_is)
    (case u_k21 => k_is)
    (case u_a22 => k_is)
    (case u_l22 => k_is)
    (case u_c22 => k_is)
    (case u_k22 => k_is)
    (case u_a23 => k_is)
    (case u_l23 => k_is)
    (case u_c23 => k_is)
    (case u_k23 => k_is)
    (case u_a24 => k_is)
    (case u_l24 => k_is)
    (case u_c24 => k_is)
    (case u_k24 => k_is)
    (case u_a25 => k_is)
    (case u_l25 => k_is)
    (case u_c25 => k_is)
    (case u_k25 => k_is)
    (case u_a26 => k_is)
    (case u_l26 => k_is)
    (case u_c26 => k_is)
    (case u_k26 => k_is)
    (case u_a27 => k_is)
    (case u_l27 => k_is)
    (case u_c27 => k_is)
    (case u_k27 => k_is)
    (case u_a28 => k_is)
    (case u_l28 => k_is)
    (case u_c28 => k_is)
    (case u_k28 => k_is)
    (case u_a29 => k_is)
    (case u_l29 => k_is)
    (case u_c29 => k_is)
    (case u_k29 => k_is)
    (case u_a30 => k_is)
    (case u_l30 => k_is)
    (case u_c30 => k_is)
    (case u_k30 => k_is)
    (case u_a31 => k_is)
    (case u_l31 => k_is)
    (case u_c31 => k_is)
    (case u_k31 => k_is)
    (case u_a32 => k_is)
    (case u_l32 => k_is)
    (case u_c32 => k_is)
    (case u_k32 => k_is)
    (case u_a33 => k_is)
    (case u_l33 => k_is)
    (case u_c33 => k_is)
    (case u_k33 => k_is)
    (case u_a34 => k_is)
    (case u_l34 => k_is)
    (case u_c34 => k_is)
    (case u_k34 => k_is)
    (case u_a35 => k_is)
    (case u_l35 => k_is)
    (case u_c35 => k_is)
    (case u_k35 => k_is)
    (case u_a36 => k_is)
    (case u_l36 => k_is)
    (case u_c36 => k_is)
    (case u_k36 => k_is)
    (case u_a37 => k_is)
    (case u_l37 => k_is)
    (case u_c37 => k_is)
    (case u_k37 => k_is)
    (case u_a38 => k_is)
    (case u_l38 => k_is)
    (case u_c38 => k_is)
    (case u_k38 => k_is)
    (case u_a39 => k_is)
    (case u_l39 => k_is)
    (case u_c39 => k_is)
    (case u_k39 => k_is)
    (case u_a40 => k_is)
    (case u_l40 => k_is)
    (case u_c40 => k_is)
    (case u_k40 => k_is)
    (case u_a41 => k_is)
    (case u_l41 => k_is)
    (case u_c41 => k_is)
    (case u_k41 => k_is)
    (case u_a42 => k_is)
    (case u_l42 => k_is)
    (case u_c42 => k_is)
    (case u_k42 => k_is)
    (case u_aC => k_is)
    (case u_aT => k_is)
    (case u_xL => k_is)
    (case u_xB => first | rfl | decide +kernel)
    (case u_xL2 => k_is)
    (case u_sa => k_is)
    (case u_exC => k_is)
    (case u_tyC => k_is)
    (case u_kC => k_is)
    (case u_nol => k_is)
    (case u_i1 => k_is)
    (case u_i2 => k_is)
    (case u_lI => k_is)
    (case u_cI => k_is)
    (case u_kI => k_is)
    (case u_ga => k_is)
    (case u_gg => k_is)
    (case u_ha => k_is)
    (case u_hn => k_is)
    (case u_ht => k_is)
    (case u_hm => k_is)
    (case u_hd => k_is)
    (case u_sC => first | rfl | k_is)
    (case u_tyB => k_is)
    (case u_sB => k_is)
    (case u_neC => first | rfl | decide)
    (case u_nb => k_is)
    (case u_z_all => k_is)
    (case u_z_enumerate => k_is)
    (case u_z_int => k_is)
    (case u_z_isinstance => k_is)
    (case u_z_len => k_is)
    (case u_z_list => k_is)
    (case u_z_range => k_is)
    (case u_z_sorted => k_is)
    (case u_z_str => k_is)
    (case u_z_tuple => k_is)
    (case u_z_zip => k_is)
    (case u_g_COLON => k_is)
    (case u_r_COLON => first | rfl | exact ⟨_, rfl⟩)
    (case u_g_FIGURES => k_is)
    (case u_r_FIGURES => first | rfl | exact ⟨_, rfl⟩)
    (case u_g_LETTERS => k_is)
    (case u_r_LETTERS => first | rfl | exact ⟨_, rfl⟩)
    (case u_g_MOST_FIGURES => k_is)
    (case u_r_MOST_FIGURES => first | rfl | exact ⟨_, rfl⟩)
    (case u_g_MOST_SIGNS => k_is)
    (case u_r_MOST_SIGNS => first | rfl | exact ⟨_, rfl⟩)
    (case u_g_NOTHING => k_is)
    (case u_r_NOTHING => first | rfl | exact ⟨_, rfl⟩)
    (case u_g_PARTED => k_is)
    (case u_r_PARTED => first | rfl | exact ⟨_, rfl⟩)
    (case u_g_SLASH => k_is)
    (case u_r_SLASH => first | rfl | exact ⟨_, rfl⟩)
    (case u_g_WORDS => k_is)
    (case u_l_WORDS => k_is)
    (case u_r0_WORDS => first | rfl | exact ⟨_, rfl⟩)
    (case u_r1_WORDS => first | rfl | exact ⟨_, rfl⟩)
    (case u_r2_WORDS => first | rfl | exact ⟨_, rfl⟩)

