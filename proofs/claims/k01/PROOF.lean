import PyProof.Rows.All
import Wide.All
import OpenK.AllK
import Wide.FinOn
import HandS.ForMost
import HandS.Exc
import HandS.TryOnly
import HandS.TryMany
import HandS.ExcOwn
import HandS.WordsExc
import HandS.ExcInit
import HandS.ExcField
import HandS.Wide
import HandS.Gcd
import HandS.IsInst
import HandS.Defaults
import HandS.TupAny
import HandS.TupLe
import HandS.CallSlots
import KE.KStateDown
import HandS.MakeKw
import HandS.Head0
import HandS.Head1
import HandS.Head2
import HandS.HeadEnd
import HandS.HeadHook1
import HandS.HeadHook2
import HandS.Head3
import PySem.Challenge.RW_neverfactored_k01_whole_ratios_reckoned
set_option Elab.async false
set_option linter.all false
set_option maxRecDepth 100000
set_option maxHeartbeats 0
set_option exponentiation.threshold 10000
namespace DL
open PySem PySem.Spec L2
abbrev St := L2.St

inductive PD where
  | non | bl (b : Bool) | int (i : Int) | str (x : Str) | tup (l : List PD) | lst (l : List PD)
  | obj (c : Nat) (fs : List (Str × PD))
  deriving Inhabited

/-- v stands for d in the frozen heap G -/
inductive Rp (K : PySem.W.Frag) (G : Hp) : V → PD → Prop
  | non : Rp K G .non .non
  | bl (b : Bool) : Rp K G (.bl b) (.bl b)
  | int (i : Int) : Rp K G (.int i) (.int i)
  | str (x : Str) : Rp K G (.str x) (.str x)
  | tup {a : Addr} {xs : List V} {ds : List PD} : SqT K G a xs → Paired (Rp K G) xs ds → Rp K G (.ref a) (.tup ds)
  | lst {a : Addr} {xs : List V} {ds : List PD} : SqL K G a xs → Paired (Rp K G) xs ds → Rp K G (.ref a) (.lst ds)

theorem Same.rd {H H' : Hp} {a : Addr} {u : HO} (e : Same H H') (h : Rd H a u) : Rd H' a u := by
  rcases h with h | ⟨o, h⟩
  · exact .inl (e _ _ h)
  · exact .inr ⟨o, e _ _ h⟩
theorem Same.seqT {K : PySem.W.Frag} {H H' : Hp} {a : Addr} {xs : List V} (e : Same H H') (h : SqT K H a xs) : SqT K H' a xs := by
  rcases h with (h | ⟨o, h⟩) | h
  · exact .inl (.inl (e _ _ h))
  · exact .inl (.inr ⟨o, e _ _ h⟩)
  · exact .inr h

mutual
theorem Rp.up {K : PySem.W.Frag} {G G' : Hp} (s : Same G G') : ∀ (d : PD) {v : V}, Rp K G v d → Rp K G' v d
  | .non, _, h => by cases h; exact .non
  | .bl _, _, h => by cases h; exact .bl _
  | .int _, _, h => by cases h; exact .int _
  | .str _, _, h => by cases h; exact .str _
  | .tup ds, _, h => by
    cases h with
    | tup q p => exact .tup (Same.seqT s q) (Rp.ups s ds p)
  | .lst ds, _, h => by
    cases h with
    | lst q p => exact .lst (s.seq q) (Rp.ups s ds p)
  | .obj _ _, _, h => by cases h
theorem Rp.ups {K : PySem.W.Frag} {G G' : Hp} (s : Same G G') : ∀ (ds : List PD) {vs : List V}, Paired (Rp K G) vs ds → Paired (Rp K G') vs ds
  | [], _, h => by cases h; exact .nil
  | d :: ds, _, h => by
    cases h with
    | cons r t => exact .cons (Rp.up s d r) (Rp.ups s ds t)
end

/-- a value of a running def: plain data, or the n-th cell -/
inductive D where
  | p (d : PD)
  | ref (n : Nat)
  deriving Inhabited

def RD (K : PySem.W.Frag) (G : Hp) (φ : List Addr) (v : V) : D → Prop
  | .p d => Rp K G v d
  | .ref n => ∃ a, φ[n]? = some a ∧ v = .ref a
abbrev RDs (K : PySem.W.Frag) (G : Hp) (φ : List Addr) : List V → List D → Prop := Paired (RD K G φ)

/-- a cell: a list that may change, or what was frozen -/
inductive Cell where
  | lst (l : List D)
  | froz (d : PD)
  deriving Inhabited

abbrev Fields := List (Str × PD)
structure DS where
  env : List (Option D)
  cells : List Cell
  ex : Option (Nat × Fields) := none

/-- the heap and the cells grow -/
structure Gr (G : Hp) (φ : List Addr) (G' : Hp) (φ' : List Addr) : Prop where
  g : Same G G'
  f : ∃ r, φ' = φ ++ r
theorem Gr.refl {G : Hp} {φ : List Addr} : Gr G φ G φ := ⟨Same.refl _, [], by simp⟩
theorem Gr.trans {G G1 G2 : Hp} {φ φ1 φ2 : List Addr} (a : Gr G φ G1 φ1) (b : Gr G1 φ1 G2 φ2) : Gr G φ G2 φ2 := by
  obtain ⟨a1, r1, e1⟩ := a
  obtain ⟨b1, r2, e2⟩ := b
  exact ⟨a1.trans b1, r1 ++ r2, by rw [e2, e1, List.append_assoc]⟩
theorem Gr.at {G G1 : Hp} {φ φ1 : List Addr} (a : Gr G φ G1 φ1) {n : Nat} {x : Addr} (h : φ[n]? = some x) : φ1[n]? = some x := by
  obtain ⟨_, r, e⟩ := a
  obtain ⟨hl, _⟩ := List.getElem?_eq_some_iff.mp h
  rw [e, List.getElem?_append_left hl]
  exact h
theorem RD.up {K : PySem.W.Frag} {G G1 : Hp} {φ φ1 : List Addr} (a : Gr G φ G1 φ1) : ∀ {d : D} {v : V}, RD K G φ v d → RD K G1 φ1 v d
  | .p d, _, h => Rp.up a.g d h
  | .ref n, _, h => by
    obtain ⟨x, h1, h2⟩ := h
    exact ⟨x, a.at h1, h2⟩
theorem RDs.up {K : PySem.W.Frag} {G G1 : Hp} {φ φ1 : List Addr} (a : Gr G φ G1 φ1) {ds : List D} {vs : List V} (h : RDs K G φ vs ds) : RDs K G1 φ1 vs ds :=
  Paired.mapP h fun _ _ q => RD.up a q

/-- what is fixed through a def's body: the classes' places, the rigid heap, the entry's frozen heap, the exception that is handled (its slot, itself, its class, its dict), the wish -/
structure DC where
  cx : Nat → Addr
  R : Hp
  G0 : Hp
  hx : Option (Nat × Addr × Value × Option Addr)
  W : WX

/-- an exception's class and fields -/
def XRp (K : PySem.W.Frag) (cx : Nat → Addr) (G : Hp) (cls : Value) (d : Option Addr) (c : Nat) (fs : Fields) : Prop :=
  cls = Value.ref (cx c) ∧ ((d = none ∧ fs = []) ∨ ∃ a vs, d = some a ∧ G a = some (.xd vs) ∧ Paired (fun (p : Str × V) (q : Str × PD) => p.1 = q.1 ∧ Rp K G p.2 q.2) vs fs)
theorem XRp.up {K : PySem.W.Frag} {cx : Nat → Addr} {G G' : Hp} {cls : Value} {d : Option Addr} {c : Nat} {fs : Fields} (s : Same G G') (h : XRp K cx G cls d c fs) : XRp K cx G' cls d c fs := by
  obtain ⟨e, h⟩ := h
  refine ⟨e, ?_⟩
  rcases h with h | ⟨a, vs, h1, h2, h3⟩
  · exact .inl h
  · exact .inr ⟨a, vs, h1, s _ _ h2, Paired.mapP h3 fun _ _ q => ⟨q.1, Rp.up s _ q.2⟩⟩

def CellOk (K : PySem.W.Frag) (c : DC) (G : Hp) (φ : List Addr) (H : Hp) (a : Addr) : Cell → Prop
  | .lst l => G a = none ∧ ∃ vs, H a = some (.lst vs) ∧ RDs K G φ vs l
  | .froz d => Rp K G (.ref a) d

structure Sim (K : PySem.W.Frag) (c : DC) (G : Hp) (φ : List Addr) (s : DS) (σ : St) (H : Hp) : Prop where
  gh : Same G H
  rh : Same c.R H
  fr : ∀ a, G a ≠ none → c.R a ≠ none → c.G0 a ≠ none
  len : s.env.length = σ.length
  env : ∀ (i : Nat) (d : D), s.env[i]? = some (some d) → ∃ v, σ[i]? = some (some v) ∧ RD K G φ v d
  clen : s.cells.length = φ.length
  cell : ∀ (n : Nat) (a : Addr) (x : Cell), φ[n]? = some a → s.cells[n]? = some x → CellOk K c G φ H a x
  cR : ∀ a ∈ φ, c.R a = none
  cH : ∀ a ∈ φ, H a ≠ none
  nd : φ.Nodup
  ex : ∀ e fs, s.ex = some (e, fs) → ∃ i a cls d, c.hx = some (i, a, cls, d) ∧ σ[i]? = some (some (.ref a)) ∧ XRp K c.cx G cls d e fs

/-- an outcome -/
inductive ER (α : Type) where
  | ok (a : α) (s : DS)
  | exc (c : Nat) (fs : Fields) (s : DS)
  | no

def Po {α β : Type} (K : PySem.W.Frag) (c : DC) (rel : Hp → List Addr → β → α → Prop) (o : ER α) (G : Hp) (φ : List Addr) (σ : St) (Q : β → Hp → Prop) : Prop :=
  match o with
  | .ok d s' => ∀ v G' φ' H', Gr G φ G' φ' → Sim K c G' φ' s' σ H' → rel G' φ' v d → Q v H'
  | .exc e fs s' => ∀ cls dd G' φ' H', Gr G φ G' φ' → Sim K c G' φ' s' σ H' → XRp K c.cx G' cls dd e fs → c.W cls dd σ H'
  | .no => False
def rd {α β : Type} (K : PySem.W.Frag) (c : DC) (rel : Hp → List Addr → β → α → Prop) (m : DS → ER α) : St → Hp → (β → Hp → Prop) → Prop :=
  fun σ H Q => ∃ G φ s, Sim K c G φ s σ H ∧ Po K c rel (m s) G φ σ Q

def mb {α γ : Type} (m : DS → ER α) (k : α → DS → ER γ) : DS → ER γ := fun s => match m s with
  | .ok a s' => k a s'
  | .exc e fs s' => .exc e fs s'
  | .no => .no

section
variable {K : PySem.W.Frag} {c : DC} {α β γ δ : Type} {rel : Hp → List Addr → β → α → Prop} {rel2 : Hp → List Addr → δ → γ → Prop} {G G1 : Hp} {φ φ1 : List Addr} {σ : St} {H : Hp} {s : DS}
theorem Po.up {o : ER α} {Q : β → Hp → Prop} (a : Gr G φ G1 φ1) (h : Po K c rel o G φ σ Q) : Po K c rel o G1 φ1 σ Q := by
  cases o with
  | ok d s' => exact fun v G' φ' H' g => h v G' φ' H' (a.trans g)
  | exc e fs s' => exact fun cls dd G' φ' H' g => h cls dd G' φ' H' (a.trans g)
  | no => exact h
theorem Po.mono {o : ER α} {Q Q' : β → Hp → Prop} (h : Po K c rel o G φ σ Q) (q : ∀ v H', Q v H' → Q' v H') : Po K c rel o G φ σ Q' := by
  cases o with
  | ok d s' => exact fun v G' φ' H' g sm r => q v H' (h v G' φ' H' g sm r)
  | exc e fs s' => exact h
  | no => exact h
/-- from an outcome ok -/
theorem Po.ok {d : α} {s' : DS} {v : β} {H' : Hp} {Q : β → Hp → Prop} (h : Po K c rel (.ok d s') G φ σ Q) (g : Gr G φ G1 φ1) (sm : Sim K c G1 φ1 s' σ H') (r : rel G1 φ1 v d) : Q v H' := h v G1 φ1 H' g sm r
theorem rd.mono {m : DS → ER α} {Q Q' : β → Hp → Prop} (h : rd K c rel m σ H Q) (q : ∀ v H', Q v H' → Q' v H') : rd K c rel m σ H Q' := by
  obtain ⟨G, φ, s, sm, p⟩ := h
  exact ⟨G, φ, s, sm, p.mono q⟩
/-- a first part, then what comes -/
theorem rd.bind {m : DS → ER α} {k : α → DS → ER γ} {Q : δ → Hp → Prop} (sm : Sim K c G φ s σ H) (h : Po K c rel2 (mb m k s) G φ σ Q) :
    rd K c rel m σ H (fun v H1 => ∃ G1 φ1 s1 d, Gr G φ G1 φ1 ∧ Sim K c G1 φ1 s1 σ H1 ∧ rel G1 φ1 v d ∧ Po K c rel2 (k d s1) G1 φ1 σ Q) := by
  refine ⟨G, φ, s, sm, ?_⟩
  unfold mb at h
  cases e : m s with
  | ok d s' =>
    rw [e] at h
    intro v G' φ' H' g sm' r
    exact ⟨G', φ', s', d, g, sm', r, h.up g⟩
  | exc x fs s' => rw [e] at h; exact h
  | no => rw [e] at h; exact h
/-- the last part -/
theorem rd.of {m : DS → ER α} {Q : β → Hp → Prop} (sm : Sim K c G φ s σ H) (h : Po K c rel (m s) G φ σ Q) : rd K c rel m σ H Q := ⟨G, φ, s, sm, h⟩
end

abbrev DE (X : Cx) (c : DC) (e : Expr) (m : DS → ER D) : Prop := PE X e (rd X.K c (RD X.K) m)
abbrev relB (_ : Hp) (_ : List Addr) (b b' : Bool) : Prop := b = b'
abbrev DT (X : Cx) (c : DC) (e : Expr) (m : DS → ER Bool) : Prop := PT X e (rd X.K c relB m)
abbrev DW (X : Cx) (c : DC) (e : Expr) (m : DS → ER Bool) : Prop := PW X e (rd X.K c relB m)
abbrev DA (X : Cx) (c : DC) (es : List Expr) (m : DS → ER (List D)) : Prop := PA X es (rd X.K c (RDs X.K) m)
theorem pe_imp {X : Cx} {e : Expr} {t t' : TE} (h : PE X e t) (i : ∀ σ H Q, t' σ H Q → t σ H Q) : PE X e t' := ⟨fun pins s σ H Q I q => h.run pins s σ H Q I (i _ _ _ q)⟩
theorem pt_imp {X : Cx} {e : Expr} {t t' : TT} (h : PT X e t) (i : ∀ σ H Q, t' σ H Q → t σ H Q) : PT X e t' := ⟨fun pins s σ H Q I q => h.run pins s σ H Q I (i _ _ _ q)⟩
theorem pw_imp {X : Cx} {e : Expr} {t t' : TT} (h : PW X e t) (i : ∀ σ H Q, t' σ H Q → t σ H Q) : PW X e t' := ⟨fun wh pins s σ H Q I q => h.run wh pins s σ H Q I (i _ _ _ q)⟩
theorem pa_imp {X : Cx} {es : List Expr} {t t' : TA} (h : PA X es t) (i : ∀ σ H Q, t' σ H Q → t σ H Q) : PA X es t' := ⟨fun pos pins s σ H Q I q => h.run pos pins s σ H Q I (i _ _ _ q)⟩
theorem ps_imp {X : Cx} {st : Stmt} {t t' : TS} (h : PS X st t) (i : ∀ D σ H, t' D σ H → t D σ H) : PS X st t' := ⟨fun pins s σ H D I q => h.run pins s σ H D I (i _ _ _ q)⟩
theorem pss_imp {X : Cx} {st : List Stmt} {t t' : TS} (h : PSs X st t) (i : ∀ D σ H, t' D σ H → t D σ H) : PSs X st t' := ⟨fun pins s σ H D I q => h.run pins s σ H D I (i _ _ _ q)⟩

section
variable {K : PySem.W.Frag} {c : DC} {G : Hp} {φ : List Addr} {σ : St} {H : Hp} {s : DS}
theorem Sim.free_of (S : Sim K c G φ s σ H) {p : Addr} (h : H p = none) : G p = none ∧ c.R p = none ∧ p ∉ φ := by
  refine ⟨?_, ?_, fun hp => S.cH p hp h⟩
  · cases q : G p with
    | none => rfl
    | some o => rw [S.gh p o q] at h; cases h
  · cases q : c.R p with
    | none => rfl
    | some o => rw [S.rh p o q] at h; cases h
theorem same_upd {H : Hp} {p : Addr} {o : HO} (h : H p = none) : Same H (upd H p o) := fun b u e => by
  rw [upd_ne (ne_of_none e h)]
  exact e
/-- a new frozen object -/
theorem Sim.lay (S : Sim K c G φ s σ H) {p : Addr} {o : HO} (h : H p = none) : Sim K c (upd G p o) φ s σ (upd H p o) ∧ Gr G φ (upd G p o) φ := by
  obtain ⟨hG, hR, hφ⟩ := S.free_of h
  have gg : Gr G φ (upd G p o) φ := ⟨same_upd hG, [], by simp⟩
  refine ⟨⟨fun b u e => ?_, fun b u e => ?_, fun a ha hr => ?_, S.len, fun i d e => ?_, S.clen, fun n a x e1 e2 => ?_, S.cR, fun a ha => ?_, S.nd, fun e fs q => ?_⟩, gg⟩
  · by_cases hb : b = p
    · subst hb; rw [upd_same] at e ⊢; exact e
    · rw [upd_ne hb] at e ⊢; exact S.gh b u e
  · rw [upd_ne (ne_of_none e hR)]; exact S.rh b u e
  · by_cases hb : a = p
    · subst hb; exact absurd hR hr
    · rw [upd_ne hb] at ha; exact S.fr a ha hr
  · obtain ⟨v, e1, r⟩ := S.env i d e
    exact ⟨v, e1, r.up gg⟩
  · have ha : a ∈ φ := List.mem_of_getElem? e1
    have hne : a ≠ p := fun z => hφ (z ▸ ha)
    have h0 := S.cell n a x e1 e2
    cases x with
    | lst l =>
      obtain ⟨g0, vs, h1, r⟩ := h0
      exact ⟨by rw [upd_ne hne]; exact g0, vs, by rw [upd_ne hne]; exact h1, RDs.up gg r⟩
    | froz d => exact Rp.up gg.g d h0
  · rw [upd_ne (show a ≠ p from fun z => hφ (z ▸ ha))]; exact S.cH a ha
  · obtain ⟨i, a, cls, d, h1, h2, h3⟩ := S.ex e fs q
    exact ⟨i, a, cls, d, h1, h2, h3.up gg.g⟩
/-- a new cell -/
theorem Sim.newCell (S : Sim K c G φ s σ H) {p : Addr} {vs : List V} {l : List D} (h : H p = none) (r : RDs K G φ vs l) :
    Sim K c G (φ ++ [p]) { s with cells := s.cells ++ [.lst l] } σ (upd H p (.lst vs)) ∧ Gr G φ G (φ ++ [p]) := by
  obtain ⟨hG, hR, hφ⟩ := S.free_of h
  have gg : Gr G φ G (φ ++ [p]) := ⟨Same.refl _, [p], rfl⟩
  refine ⟨⟨fun b u e => ?_, fun b u e => ?_, S.fr, S.len, fun i d e => ?_, by simp [S.clen], fun n a x e1 e2 => ?_, fun a ha => ?_, fun a ha => ?_, ?_, fun e fs q => ?_⟩, gg⟩
  · rw [upd_ne (ne_of_none e hG)]; exact S.gh b u e
  · rw [upd_ne (ne_of_none e hR)]; exact S.rh b u e
  · obtain ⟨v, e1, r⟩ := S.env i d e
    exact ⟨v, e1, r.up gg⟩
  · by_cases hn : n < φ.length
    · rw [List.getElem?_append_left hn] at e1
      have e2' : s.cells[n]? = some x := by
        have e2'' : (s.cells ++ [Cell.lst l])[n]? = some x := e2
        rw [List.getElem?_append_left (by rw [S.clen]; exact hn)] at e2''
        exact e2''
      have ha : a ∈ φ := List.mem_of_getElem? e1
      have hne : a ≠ p := fun z => hφ (z ▸ ha)
      have h0 := S.cell n a x e1 e2'
      cases x with
      | lst l' =>
        obtain ⟨g0, vs', h1, r'⟩ := h0
        exact ⟨g0, vs', by rw [upd_ne hne]; exact h1, RDs.up gg r'⟩
      | froz d => exact h0
    · have hn' : n = φ.length := by
        have := (List.getElem?_eq_some_iff.mp e1).1
        simp at this
        omega
      subst hn'
      rw [List.getElem?_append_right (Nat.le_refl _), Nat.sub_self] at e1
      have e1' : p = a := by simpa using e1
      have e2'' : (s.cells ++ [Cell.lst l])[φ.length]? = some x := e2
      rw [← S.clen, List.getElem?_append_right (Nat.le_refl _), Nat.sub_self] at e2''
      have e2' : Cell.lst l = x := by simpa using e2''
      subst e1' e2'
      exact ⟨hG, vs, upd_same, RDs.up gg r⟩
  · rcases List.mem_append.mp ha with ha | ha
    · exact S.cR a ha
    · have : a = p := by simpa using ha
      subst this; exact hR
  · by_cases hb : a = p
    · subst hb; rw [upd_same]; simp
    · rw [upd_ne hb]
      rcases List.mem_append.mp ha with ha | ha
      · exact S.cH a ha
      · exact absurd (by simpa using ha) hb
  · rw [List.nodup_append]
    refine ⟨S.nd, by simp, fun x hx y hy => ?_⟩
    have : y = p := by simpa using hy
    subst this
    exact fun z => hφ (z ▸ hx)
  · exact S.ex e fs q
/-- a cell written -/
theorem Sim.setCell (S : Sim K c G φ s σ H) {n : Nat} {p : Addr} {l l' : List D} {vs : List V} (hp : φ[n]? = some p) (hc : s.cells[n]? = some (.lst l)) (r : RDs K G φ vs l') :
    Sim K c G φ { s with cells := s.cells.set n (.lst l') } σ (upd H p (.lst vs)) := by
  have hm : p ∈ φ := List.mem_of_getElem? hp
  have hR := S.cR p hm
  obtain ⟨hG, vs0, hH, _⟩ := S.cell n p _ hp hc
  refine ⟨fun b u e => ?_, fun b u e => ?_, S.fr, S.len, S.env, by simp [S.clen], fun k a x e1 e2 => ?_, S.cR, fun a ha => ?_, S.nd, S.ex⟩
  · rw [upd_ne (ne_of_none e hG)]; exact S.gh b u e
  · rw [upd_ne (ne_of_none e hR)]; exact S.rh b u e
  · by_cases hk : k = n
    · subst hk
      rw [hp] at e1
      have e1' : p = a := Option.some.inj e1
      subst e1'
      have hl : k < s.cells.length := (List.getElem?_eq_some_iff.mp hc).1
      have e2' : (s.cells.set k (.lst l'))[k]? = some x := e2
      rw [List.getElem?_set_self hl] at e2'
      have e3 : Cell.lst l' = x := Option.some.inj e2'
      subst e3
      exact ⟨hG, vs, upd_same, r⟩
    · have e2' : (s.cells.set n (.lst l'))[k]? = some x := e2
      rw [List.getElem?_set_ne (Ne.symm hk)] at e2'
      have hne : a ≠ p := fun z => by
        subst z
        obtain ⟨h1, e1'⟩ := List.getElem?_eq_some_iff.mp e1
        obtain ⟨h2, e2''⟩ := List.getElem?_eq_some_iff.mp hp
        exact hk ((List.getElem_inj S.nd).mp (e1'.trans e2''.symm))
      have h0 := S.cell k a x e1 e2'
      cases x with
      | lst l2 =>
        obtain ⟨g0, vs', h1, r'⟩ := h0
        exact ⟨g0, vs', by rw [upd_ne hne]; exact h1, r'⟩
      | froz d => exact h0
  · by_cases hb : a = p
    · subst hb; rw [upd_same]; simp
    · rw [upd_ne hb]; exact S.cH a ha
/-- the frame's slot stored -/
theorem Sim.store (S : Sim K c G φ s σ H) {i : Nat} {v : V} {d : D} (r : RD K G φ v d) (hx : ∀ j a cls dd, c.hx = some (j, a, cls, dd) → j ≠ i) : Sim K c G φ { s with env := s.env.set i (some d) } (σ.set i (some v)) H := by
  refine ⟨S.gh, S.rh, S.fr, by simp [S.len], fun j e h => ?_, S.clen, S.cell, S.cR, S.cH, S.nd, fun e fs q => ?_⟩
  · have h' : (s.env.set i (some d))[j]? = some (some e) := h
    by_cases hj : j = i
    · subst hj
      have hl : j < s.env.length := by
        have := (List.getElem?_eq_some_iff.mp h').1
        simpa using this
      rw [List.getElem?_set_self hl] at h'
      have e' : d = e := Option.some.inj (Option.some.inj h')
      subst e'
      exact ⟨v, List.getElem?_set_self (by rw [← S.len]; exact hl), r⟩
    · rw [List.getElem?_set_ne (Ne.symm hj)] at h'
      obtain ⟨u, e1, r1⟩ := S.env j e h'
      exact ⟨u, by rw [List.getElem?_set_ne (Ne.symm hj)]; exact e1, r1⟩
  · obtain ⟨j, a, cls, dd, h1, h2, h3⟩ := S.ex e fs q
    exact ⟨j, a, cls, dd, h1, by rw [List.getElem?_set_ne (Ne.symm (hx _ _ _ _ h1))]; exact h2, h3⟩
/-- a slot forgotten on both sides -/
theorem Sim.forget (S : Sim K c G φ s σ H) {i : Nat} (hx : ∀ j a cls dd, c.hx = some (j, a, cls, dd) → j ≠ i) : Sim K c G φ { s with env := s.env.set i none } (σ.set i none) H := by
  refine ⟨S.gh, S.rh, S.fr, by simp [S.len], fun j e h => ?_, S.clen, S.cell, S.cR, S.cH, S.nd, fun e fs q => ?_⟩
  · have h' : (s.env.set i none)[j]? = some (some e) := h
    by_cases hj : j = i
    · subst hj
      have hl : j < s.env.length := by
        have := (List.getElem?_eq_some_iff.mp h').1
        simpa using this
      rw [List.getElem?_set_self hl] at h'
      cases Option.some.inj h'
    · rw [List.getElem?_set_ne (Ne.symm hj)] at h'
      obtain ⟨u, e1, r1⟩ := S.env j e h'
      exact ⟨u, by rw [List.getElem?_set_ne (Ne.symm hj)]; exact e1, r1⟩
  · obtain ⟨j, a, cls, dd, h1, h2, h3⟩ := S.ex e fs q
    exact ⟨j, a, cls, dd, h1, by rw [List.getElem?_set_ne (Ne.symm (hx _ _ _ _ h1))]; exact h2, h3⟩
end
end DL
namespace DL
open PySem PySem.Spec L2

def listOf (s : DS) : D → Option (List D)
  | .p (.lst l) => some (l.map .p)
  | .p _ => none
  | .ref n => match s.cells[n]? with
    | some (.lst l) => some l
    | some (.froz (.lst l)) => some (l.map .p)
    | _ => none
def tupOf : D → Option (List PD)
  | .p (.tup l) => some l
  | _ => none
def deepVW (f : DS → D → Option PD) (s : DS) : List D → Option (List PD)
  | [] => some []
  | d :: ds => (f s d).bind fun x => (deepVW f s ds).map fun xs => x :: xs
def deepV : Nat → DS → D → Option PD
  | 0 => fun _ d => match d with
    | .p d => some d
    | .ref _ => none
  | k + 1 => fun s d => match d with
    | .p d => some d
    | .ref n => match s.cells[n]? with
      | some (.lst l) => (deepVW (deepV k) s l).map .lst
      | some (.froz d) => some d
      | none => none
abbrev deepVs (k : Nat) := deepVW (deepV k)
def frzW (f : DS → D → Option (PD × DS)) : DS → List D → Option (List PD × DS)
  | s, [] => some ([], s)
  | s, d :: ds => match f s d with
    | some (x, s') => match frzW f s' ds with
      | some (xs, s'') => some (x :: xs, s'')
      | none => none
    | none => none
def frz : Nat → DS → D → Option (PD × DS)
  | 0 => fun s d => match d with
    | .p d => some (d, s)
    | .ref _ => none
  | k + 1 => fun s d => match d with
    | .p d => some (d, s)
    | .ref n => match s.cells[n]? with
      | some (.lst l) => match frzW (frz k) s l with
        | some (ds, s') => match s'.cells[n]? with
          | some (.lst _) => some (.lst ds, { s' with cells := s'.cells.set n (.froz (.lst ds)) })
          | _ => none
        | none => none
      | some (.froz d) => some (d, s)
      | none => none
abbrev frzs (k : Nat) := frzW (frz k)

section
variable {K : PySem.W.Frag} {c : DC} {G : Hp} {φ : List Addr} {σ : St} {H : Hp} {s : DS}
theorem paired_map {R : V → D → Prop} {R' : V → PD → Prop} (h : ∀ v d, R' v d → R v (.p d)) : ∀ {vs : List V} {ds : List PD}, Paired R' vs ds → Paired R vs (ds.map D.p)
  | _, _, .nil => .nil
  | _, _, .cons a b => .cons (h _ _ a) (paired_map h b)
theorem listOf_ok (S : Sim K c G φ s σ H) {v : V} {d : D} {l : List D} (r : RD K G φ v d) (e : listOf s d = some l) : ∃ a xs, v = .ref a ∧ SqL K H a xs ∧ RDs K G φ xs l := by
  have go : ∀ {a : Addr} {ds : List PD}, Rp K G (.ref a) (.lst ds) → ∃ xs, SqL K H a xs ∧ RDs K G φ xs (ds.map D.p) := fun {a ds} r => by
    cases r with
    | lst q p => exact ⟨_, S.gh.seq q, paired_map (fun _ _ z => z) p⟩
  cases d with
  | p d =>
    have r' : Rp K G v d := r
    cases r' with
    | lst q p =>
      have e' : l = _ := (Option.some.inj e).symm
      subst e'
      exact ⟨_, _, rfl, S.gh.seq q, paired_map (fun _ _ z => z) p⟩
    | _ => cases e
  | ref n =>
    obtain ⟨a, h1, h2⟩ := r
    subst h2
    unfold listOf at e
    dsimp only at e
    cases q : s.cells[n]? with
    | none => rw [q] at e; cases e
    | some x =>
      rw [q] at e
      have ok := S.cell n a x h1 q
      cases x with
      | lst l' =>
        have e' : l' = l := Option.some.inj e
        subst e'
        obtain ⟨_, vs, hH, r⟩ := ok
        exact ⟨a, vs, rfl, SqL.of hH, r⟩
      | froz d =>
        cases d with
        | lst ds =>
          have e' : ds.map D.p = l := Option.some.inj e
          subst e'
          obtain ⟨xs, h1, h2⟩ := go ok
          exact ⟨a, xs, rfl, h1, h2⟩
        | _ => cases e
theorem tupOf_ok (S : Sim K c G φ s σ H) {v : V} {d : D} {l : List PD} (r : RD K G φ v d) (e : tupOf d = some l) : ∃ a xs, v = .ref a ∧ SqT K H a xs ∧ Paired (Rp K G) xs l := by
  cases d with
  | p d =>
    have r' : Rp K G v d := r
    cases r' with
    | tup q p =>
      have e' : l = _ := (Option.some.inj e).symm
      subst e'
      exact ⟨_, _, rfl, Same.seqT S.gh q, p⟩
    | _ => cases e
  | ref n => cases e
theorem deepVW_ok {f : DS → D → Option PD} (hf : ∀ (d : D) {v : V} {x : PD}, RD K G φ v d → f s d = some x → Rp K H v x) : ∀ (ds : List D) {vs : List V} {xs : List PD}, RDs K G φ vs ds → deepVW f s ds = some xs → Paired (Rp K H) vs xs
  | [], vs, xs, r, e => by
    cases r
    have e' : [] = xs := Option.some.inj e
    subst e'
    exact .nil
  | d :: ds, vs, xs, r, e => by
    cases r with
    | cons r1 r2 =>
      unfold deepVW at e
      obtain ⟨x, e1, e2⟩ := Option.bind_eq_some_iff.mp e
      obtain ⟨ys, e3, e4⟩ := Option.map_eq_some_iff.mp e2
      subst e4
      exact .cons (hf d r1 e1) (deepVW_ok hf ds r2 e3)
theorem deepV_ok (S : Sim K c G φ s σ H) : ∀ (k : Nat) (d : D) {v : V} {x : PD}, RD K G φ v d → deepV k s d = some x → Rp K H v x
  | 0, .p d, v, x, r, e => by
    have e' : d = x := Option.some.inj e
    subst e'
    exact Rp.up S.gh d r
  | 0, .ref n, v, x, r, e => by
    have e' : (none : Option PD) = some x := e
    cases e'
  | k + 1, .p d, v, x, r, e => by
    have e' : d = x := Option.some.inj e
    subst e'
    exact Rp.up S.gh d r
  | k + 1, .ref n, v, x, r, e => by
    obtain ⟨a, h1, h2⟩ := r
    subst h2
    unfold deepV at e
    dsimp only at e
    cases q : s.cells[n]? with
    | none => rw [q] at e; cases e
    | some y =>
      rw [q] at e
      have ok := S.cell n a y h1 q
      cases y with
      | lst l =>
        obtain ⟨_, vs, hH, r⟩ := ok
        obtain ⟨xs, e1, e2⟩ := Option.map_eq_some_iff.mp e
        subst e2
        exact .lst (SqL.of hH) (deepVW_ok (fun d {v x} r e => deepV_ok S k d r e) l r e1)
      | froz d =>
        have e' : d = x := Option.some.inj e
        subst e'
        exact Rp.up S.gh d ok
theorem deepVs_ok (S : Sim K c G φ s σ H) (k : Nat) (ds : List D) {vs : List V} {xs : List PD} (r : RDs K G φ vs ds) (e : deepVs k s ds = some xs) : Paired (Rp K H) vs xs := deepVW_ok (fun d {v x} r e => deepV_ok S k d r e) ds r e
/-- a cell becomes frozen -/
theorem Sim.freeze (S : Sim K c G φ s σ H) {n : Nat} {p : Addr} {l : List D} {vs : List V} {ds : List PD} (hp : φ[n]? = some p) (hc : s.cells[n]? = some (.lst l)) (hH : H p = some (.lst vs)) (r : Paired (Rp K G) vs ds) :
    Sim K c (upd G p (.lst vs)) φ { s with cells := s.cells.set n (.froz (.lst ds)) } σ H ∧ Gr G φ (upd G p (.lst vs)) φ ∧ Rp K (upd G p (.lst vs)) (.ref p) (.lst ds) := by
  have hm : p ∈ φ := List.mem_of_getElem? hp
  have hR := S.cR p hm
  obtain ⟨hG, _, _, _⟩ := S.cell n p _ hp hc
  have gg : Gr G φ (upd G p (.lst vs)) φ := ⟨same_upd hG, [], by simp⟩
  have rr : Rp K (upd G p (.lst vs)) (.ref p) (.lst ds) := .lst (SqL.of upd_same) (Rp.ups gg.g ds r)
  refine ⟨⟨fun b u e => ?_, S.rh, fun a ha hr => ?_, S.len, fun i d e => ?_, by simp [S.clen], fun k a x e1 e2 => ?_, S.cR, S.cH, S.nd, fun e fs q => ?_⟩, gg, rr⟩
  · by_cases hb : b = p
    · subst hb; rw [upd_same] at e; rw [hH]; exact e
    · rw [upd_ne hb] at e; exact S.gh b u e
  · by_cases hb : a = p
    · subst hb; exact absurd hR hr
    · rw [upd_ne hb] at ha; exact S.fr a ha hr
  · obtain ⟨v, e1, r⟩ := S.env i d e
    exact ⟨v, e1, r.up gg⟩
  · by_cases hk : k = n
    · subst hk
      rw [hp] at e1
      have e1' : p = a := Option.some.inj e1
      subst e1'
      have hl : k < s.cells.length := (List.getElem?_eq_some_iff.mp hc).1
      have e2' : (s.cells.set k (.froz (.lst ds)))[k]? = some x := e2
      rw [List.getElem?_set_self hl] at e2'
      have e3 : Cell.froz (.lst ds) = x := Option.some.inj e2'
      subst e3
      exact rr
    · have e2' : (s.cells.set n (.froz (.lst ds)))[k]? = some x := e2
      rw [List.getElem?_set_ne (Ne.symm hk)] at e2'
      have hne : a ≠ p := fun z => by
        subst z
        obtain ⟨h1, e1'⟩ := List.getElem?_eq_some_iff.mp e1
        obtain ⟨h2, e2''⟩ := List.getElem?_eq_some_iff.mp hp
        exact hk ((List.getElem_inj S.nd).mp (e1'.trans e2''.symm))
      have h0 := S.cell k a x e1 e2'
      cases x with
      | lst l2 =>
        obtain ⟨g0, vs', h1, r'⟩ := h0
        exact ⟨by rw [upd_ne hne]; exact g0, vs', h1, RDs.up gg r'⟩
      | froz d => exact Rp.up gg.g d h0
  · obtain ⟨i, a, cls, d, h1, h2, h3⟩ := S.ex e fs q
    exact ⟨i, a, cls, d, h1, h2, h3.up gg.g⟩
end
section
variable {K : PySem.W.Frag} {c : DC} {φ : List Addr} {σ : St} {H : Hp}
theorem frzW_ok {f : DS → D → Option (PD × DS)} (hf : ∀ (d : D) {G : Hp} {s s' : DS} {x : PD}, Sim K c G φ s σ H → f s d = some (x, s') → ∃ G', Gr G φ G' φ ∧ Sim K c G' φ s' σ H ∧ ∀ v, RD K G φ v d → Rp K G' v x) :
    ∀ (ds : List D) {G : Hp} {s s' : DS} {xs : List PD}, Sim K c G φ s σ H → frzW f s ds = some (xs, s') → ∃ G', Gr G φ G' φ ∧ Sim K c G' φ s' σ H ∧ ∀ vs, RDs K G φ vs ds → Paired (Rp K G') vs xs
  | [], G, s, s', xs, S, e => by
    have e' : ([], s) = (xs, s') := Option.some.inj e
    cases e'
    exact ⟨G, Gr.refl, S, fun vs r => by cases r; exact .nil⟩
  | d :: ds, G, s, s', xs, S, e => by
    unfold frzW at e
    cases q : f s d with
    | none => rw [q] at e; cases e
    | some z =>
      obtain ⟨x, s1⟩ := z
      rw [q] at e
      dsimp only at e
      obtain ⟨G1, g1, S1, h1⟩ := hf d S q
      cases q2 : frzW f s1 ds with
      | none => rw [q2] at e; cases e
      | some z2 =>
        obtain ⟨ys, s2⟩ := z2
        rw [q2] at e
        cases (Option.some.inj e)
        obtain ⟨G2, g2, S2, h2⟩ := frzW_ok hf ds S1 q2
        refine ⟨G2, g1.trans g2, S2, fun vs r => ?_⟩
        cases r with
        | cons r1 r2 => exact .cons (Rp.up g2.g x (h1 _ r1)) (h2 _ (RDs.up g1 r2))
theorem frz_ok : ∀ (k : Nat) (d : D) {G : Hp} {s s' : DS} {x : PD}, Sim K c G φ s σ H → frz k s d = some (x, s') → ∃ G', Gr G φ G' φ ∧ Sim K c G' φ s' σ H ∧ ∀ v, RD K G φ v d → Rp K G' v x
  | 0, .p d, G, s, s', x, S, e => by
    cases (show (d, s) = (x, s') from Option.some.inj e)
    exact ⟨G, Gr.refl, S, fun v r => r⟩
  | 0, .ref n, G, s, s', x, S, e => by
    have e' : (none : Option (PD × DS)) = some (x, s') := e
    cases e'
  | k + 1, .p d, G, s, s', x, S, e => by
    cases (show (d, s) = (x, s') from Option.some.inj e)
    exact ⟨G, Gr.refl, S, fun v r => r⟩
  | k + 1, .ref n, G, s, s', x, S, e => by
    unfold frz at e
    dsimp only at e
    cases q : s.cells[n]? with
    | none => rw [q] at e; cases e
    | some y =>
      rw [q] at e
      have hn : n < φ.length := by rw [← S.clen]; exact (List.getElem?_eq_some_iff.mp q).1
      have hp : φ[n]? = some φ[n] := List.getElem?_eq_getElem hn
      have ok := S.cell n _ y hp q
      cases y with
      | lst l =>
        dsimp only at e
        obtain ⟨_, vs, hH, r⟩ := ok
        cases q2 : frzW (frz k) s l with
        | none => rw [q2] at e; cases e
        | some z =>
          obtain ⟨ds, s1⟩ := z
          rw [q2] at e
          dsimp only at e
          obtain ⟨G1, g1, S1, h1⟩ := frzW_ok (fun d {G s s' x} S e => frz_ok k d S e) l S q2
          cases q3 : s1.cells[n]? with
          | none => rw [q3] at e; cases e
          | some y2 =>
            rw [q3] at e
            cases y2 with
            | froz d => cases e
            | lst l2 =>
              cases (Option.some.inj e)
              obtain ⟨S2, g2, r2⟩ := S1.freeze hp q3 hH (h1 vs r)
              refine ⟨_, g1.trans g2, S2, fun v rv => ?_⟩
              obtain ⟨a, ha, hv⟩ := rv
              rw [hp] at ha
              cases ha
              subst hv
              exact r2
      | froz d =>
        cases (Option.some.inj e)
        refine ⟨G, Gr.refl, S, fun v rv => ?_⟩
        obtain ⟨a, ha, hv⟩ := rv
        rw [hp] at ha
        cases ha
        subst hv
        exact ok
theorem frzs_ok (k : Nat) (ds : List D) {G : Hp} {s s' : DS} {xs : List PD} (S : Sim K c G φ s σ H) (e : frzs k s ds = some (xs, s')) : ∃ G', Gr G φ G' φ ∧ Sim K c G' φ s' σ H ∧ ∀ vs, RDs K G φ vs ds → Paired (Rp K G') vs xs :=
  frzW_ok (fun d {G s s' x} S e => frz_ok k d S e) ds S e
end

abbrev fuel : Nat := 6
abbrev line : Nat := 16777216

section
variable {X : Cx} {c : DC} {pos : Pos}
def mVar (i : Nat) : DS → ER D := fun s => match s.env[i]? with
  | some (some d) => .ok d s
  | _ => .no
def mC (d : PD) : DS → ER D := fun s => .ok (.p d) s
theorem dv (i : Nat) {x : Str} (hN : X.N[i]? = some x := by rfl) (hv : Vis X.env.scope x := by first | exact Or.inl rfl | exact Or.inr (Or.inl rfl) | exact Or.inr (Or.inr rfl)) (hd : (x == ("__debug__" : Str)) = false := by decide)
    (hcd : (x == ("__classdict__" : Str)) = false := by decide) : DE X c (.Name x pos) (mVar i) := pe_imp (pe_var hN hv hd hcd) fun σ H Q h => by
  obtain ⟨G, φ, s, S, p⟩ := h
  unfold mVar at p
  cases q : s.env[i]? with
  | none => rw [q] at p; exact p.elim
  | some o =>
    rw [q] at p
    cases o with
    | none => exact p.elim
    | some d =>
      obtain ⟨v, e, r⟩ := S.env i d q
      exact ⟨v, e, p.ok Gr.refl S r⟩
theorem rd_const {v : V} {d : PD} (r : ∀ G, Rp X.K G v d) : ∀ σ H Q, rd X.K c (RD X.K) (mC d) σ H Q → tC v σ H Q := fun σ H Q h => by
  obtain ⟨G, φ, s, S, p⟩ := h
  exact Po.ok p Gr.refl S (r G)
theorem dc_int {i : Int} {j} : DE X c (.Constant (.int i) j pos) (mC (.int i)) := pe_imp pe_int (rd_const fun _ => .int i)
theorem dc_bl {b : Bool} {j} : DE X c (.Constant (.bool b) j pos) (mC (.bl b)) := pe_imp pe_bl (rd_const fun _ => .bl b)
theorem dc_non {j} : DE X c (.Constant .none j pos) (mC .non) := pe_imp pe_non (rd_const fun _ => .non)
theorem dc_str {x : Str} {j} : DE X c (.Constant (.str x) j pos) (mC (.str x)) := pe_imp pe_str (rd_const fun _ => .str x)
theorem dglob {x : Str} {v : V} {u : Value} {d : PD} (hg : Gl X x) (hm : X.mg x = some u) (r : RelV v u) (rp : ∀ G, Rp X.K G v d) (hd : (x == ("__debug__" : Str)) = false := by decide) : DE X c (.Name x pos) (mC d) :=
  pe_imp (pe_glob hg hm r hd) (rd_const rp)
end

section
variable {X : Cx} {c : DC} {pos : Pos} {e : Expr} {es : List Expr} {m : DS → ER D} {n : DS → ER (List D)}
def mNil : DS → ER (List D) := fun s => .ok [] s
def mCons (m : DS → ER D) (n : DS → ER (List D)) : DS → ER (List D) := mb m fun d => mb n fun ds s => .ok (d :: ds) s
theorem da_nil : DA X c [] mNil := pa_imp pa_nil fun σ H Q h => by
  obtain ⟨G, φ, s, S, p⟩ := h
  exact Po.ok p Gr.refl S .nil
theorem da_cons (ha : DE X c e m) (hr : DA X c es n) (hs : starEach (e :: es) X.env = (false, eval e X.env) :: starEach es X.env := by rfl) : DA X c (e :: es) (mCons m n) := pa_imp (pa_cons ha hr hs) fun σ H Q h => by
  obtain ⟨G, φ, s, S, p⟩ := h
  refine (rd.bind (rel := RD X.K) S p).mono fun v H1 ⟨G1, φ1, s1, d, g1, S1, r1, p1⟩ => ?_
  refine (rd.bind (rel := RDs X.K) S1 p1).mono fun vs H2 ⟨G2, φ2, s2, ds, g2, S2, r2, p2⟩ => ?_
  exact Po.ok p2 Gr.refl S2 (.cons (r1.up g2) r2)
/-- a tuple of the values, frozen -/
def fTup : List D → DS → ER D := fun ds s => match frzs fuel s ds with
  | some (xs, s') => if xs.length ≤ line then .ok (.p (.tup xs)) s' else .no
  | none => .no
def mTup (n : DS → ER (List D)) : DS → ER D := mb n fTup
theorem paired_length {α β : Type} {R : α → β → Prop} {xs : List α} {ys : List β} (h : Paired R xs ys) : xs.length = ys.length := Paired.length h
theorem line_eq : (sizeLine : Nat) = line := sizeLine_eq
theorem de_tup {x1} (h : DA X c es n) : DE X c (.Tuple es x1 pos) (mTup n) := pe_imp (pe_tup h) fun σ H Q h => by
  obtain ⟨G, φ, s, S, p⟩ := h
  refine (rd.bind (rel := RDs X.K) S p).mono fun vs H1 ⟨G1, φ1, s1, ds, g1, S1, r1, p1⟩ => ?_
  unfold fTup at p1
  cases q : frzs fuel s1 ds with
  | none => rw [q] at p1; exact p1.elim
  | some z =>
    obtain ⟨xs, s2⟩ := z
    rw [q] at p1
    dsimp only at p1
    obtain ⟨G2, g2, S2, h2⟩ := frzs_ok fuel ds S1 q
    have r2 := h2 vs r1
    split at p1
    · rename_i hl
      refine ⟨by rw [line_eq, paired_length r2]; exact hl, fun a ha => ?_⟩
      obtain ⟨S3, g3⟩ := S2.lay (o := .tup vs) ha
      exact Po.ok p1 (g2.trans g3) S3 (.tup (SqT.of upd_same) (Rp.ups g3.g xs r2))
    · exact p1.elim
/-- a list of the values: a new cell -/
def fLst : List D → DS → ER D := fun ds s => if ds.length ≤ line then .ok (.ref s.cells.length) { s with cells := s.cells ++ [.lst ds] } else .no
def mLst (n : DS → ER (List D)) : DS → ER D := mb n fLst
theorem at_last {α : Type} {l : List α} {x : α} : (l ++ [x])[l.length]? = some x := by simp
theorem lst_new {K : PySem.W.Frag} {G : Hp} {φ : List Addr} {σ : St} {H : Hp} {s : DS} {ds : List D} {vs : List V} {Q : VK} (S : Sim K c G φ s σ H) (r : RDs K G φ vs ds) (p : Po K c (RD K) (fLst ds s) G φ σ Q) :
    vs.length ≤ sizeLine ∧ ∀ a, H a = none → Q (.ref a) (upd H a (.lst vs)) := by
  unfold fLst at p
  split at p
  · rename_i hl
    refine ⟨by rw [line_eq, paired_length r]; exact hl, fun a ha => ?_⟩
    obtain ⟨S3, g3⟩ := S.newCell ha r
    exact Po.ok p g3 S3 ⟨a, by rw [S.clen]; exact at_last, rfl⟩
  · exact p.elim
theorem de_lst (h : DA X c es n) : DE X c (.List es pos) (mLst n) := pe_imp (pe_lst h) fun σ H Q h => by
  obtain ⟨G, φ, s, S, p⟩ := h
  refine (rd.bind (rel := RDs X.K) S p).mono fun vs H1 ⟨G1, φ1, s1, ds, g1, S1, r1, p1⟩ => ?_
  exact lst_new S1 r1 p1
end

/-- the D-function f keeps the reading r of a two-place operation -/
def DOp (X : Cx) (c : DC) (r : R2) (f : D → D → DS → ER D) : Prop :=
  ∀ (G : Hp) (φ : List Addr) (s : DS) (σ : St) (H : Hp) (x y : V) (d e : D) (Q : VK), Sim X.K c G φ s σ H → RD X.K G φ x d → RD X.K G φ y e → Po X.K c (RD X.K) (f d e s) G φ σ Q → r x y H Q
def DUn (X : Cx) (c : DC) (r : V → Hp → VK → Prop) (f : D → DS → ER D) : Prop :=
  ∀ (G : Hp) (φ : List Addr) (s : DS) (σ : St) (H : Hp) (x : V) (d : D) (Q : VK), Sim X.K c G φ s σ H → RD X.K G φ x d → Po X.K c (RD X.K) (f d s) G φ σ Q → r x H Q
def DCall (X : Cx) (c : DC) (r : List V → Hp → VK → Prop) (f : List D → DS → ER D) : Prop :=
  ∀ (G : Hp) (φ : List Addr) (s : DS) (σ : St) (H : Hp) (xs : List V) (ds : List D) (Q : VK), Sim X.K c G φ s σ H → RDs X.K G φ xs ds → Po X.K c (RD X.K) (f ds s) G φ σ Q → r xs H Q
def DMt (X : Cx) (c : DC) (r : V → List V → Hp → VK → Prop) (f : D → List D → DS → ER D) : Prop :=
  ∀ (G : Hp) (φ : List Addr) (s : DS) (σ : St) (H : Hp) (x : V) (xs : List V) (d : D) (ds : List D) (Q : VK), Sim X.K c G φ s σ H → RD X.K G φ x d → RDs X.K G φ xs ds → Po X.K c (RD X.K) (f d ds s) G φ σ Q → r x xs H Q
def mBin (f : D → D → DS → ER D) (m n : DS → ER D) : DS → ER D := mb m fun d => mb n fun e => f d e
def mUn (f : D → DS → ER D) (m : DS → ER D) : DS → ER D := mb m f
def mCB (f : List D → DS → ER D) (m : DS → ER (List D)) : DS → ER D := mb m f
section
variable {X : Cx} {c : DC} {pos : Pos} {a b : Expr} {m n : DS → ER D} {r r' : R2} {f : D → D → DS → ER D}
theorem rd_bin (hf : DOp X c r f) : ∀ σ H Q, rd X.K c (RD X.K) (mBin f m n) σ H Q → tOp r (rd X.K c (RD X.K) m) (rd X.K c (RD X.K) n) σ H Q := fun σ H Q h => by
  obtain ⟨G, φ, s, S, p⟩ := h
  refine (rd.bind (rel := RD X.K) S p).mono fun v H1 ⟨G1, φ1, s1, d, g1, S1, r1, p1⟩ => ?_
  refine (rd.bind (rel := RD X.K) S1 p1).mono fun u H2 ⟨G2, φ2, s2, e, g2, S2, r2, p2⟩ => ?_
  exact hf G2 φ2 s2 σ H2 v u d e Q S2 (r1.up g2) r2 p2
theorem de_bin {op : Operator} (ho : OpR X (binaryOp op) r) (hf : DOp X c r f) (ha : DE X c a m) (hb : DE X c b n) : DE X c (.BinOp a op b pos) (mBin f m n) := pe_imp (pe_op ho ha hb) (rd_bin hf)
theorem de_un {op : UnaryOp} {r : V → Hp → VK → Prop} {f : D → DS → ER D} (ho : UnR X (unaryOp op) r) (hf : DUn X c r f) (ha : DE X c a m) : DE X c (.UnaryOp op a pos) (mUn f m) := pe_imp (pe_un ho ha) fun σ H Q h => by
  obtain ⟨G, φ, s, S, p⟩ := h
  refine (rd.bind (rel := RD X.K) S p).mono fun v H1 ⟨G1, φ1, s1, d, g1, S1, r1, p1⟩ => ?_
  exact hf G1 φ1 s1 σ H1 v d Q S1 r1 p1
theorem de_cmp {op : CmpOp} (ho : OpR X (compareOp op) r) (hf : DOp X c r f) (ha : DE X c a m) (hb : DE X c b n) (hm : behindInMarks op b = false) : DE X c (.Compare a [op] [b] pos) (mBin f m n) := pe_imp (pe_cmpR ho ha hb hm) (rd_bin hf)
/-- a truth value as a test -/
def mTest (m : DS → ER D) : DS → ER Bool := mb m fun d s => match d with
  | .p (.bl k) => .ok k s
  | _ => .no
theorem rp_bl {K : PySem.W.Frag} {G : Hp} {v : V} {k : Bool} (h : Rp K G v (.bl k)) : v = .bl k := by cases h; rfl
theorem rp_int {K : PySem.W.Frag} {G : Hp} {v : V} {i : Int} (h : Rp K G v (.int i)) : v = .int i := by cases h; rfl
theorem rp_str {K : PySem.W.Frag} {G : Hp} {v : V} {i : Str} (h : Rp K G v (.str i)) : v = .str i := by cases h; rfl
theorem rp_non {K : PySem.W.Frag} {G : Hp} {v : V} (h : Rp K G v .non) : v = .non := by cases h; rfl
theorem rd_test {t : TE} (ht : ∀ σ H Q, rd X.K c (RD X.K) m σ H Q → t σ H Q) : ∀ σ H Q, rd X.K c relB (mTest m) σ H Q → t σ H fun x H1 => ∃ k, x = .bl k ∧ Q k H1 := fun σ H Q h => by
  obtain ⟨G, φ, s, S, p⟩ := h
  refine ht σ H _ ((rd.bind (rel := RD X.K) S p).mono fun v H1 ⟨G1, φ1, s1, d, g1, S1, r1, p1⟩ => ?_)
  cases d with
  | ref n => exact p1.elim
  | p d =>
    cases d with
    | bl k => exact ⟨k, rp_bl r1, Po.ok p1 Gr.refl S1 rfl⟩
    | _ => exact p1.elim
theorem dt_cmp {op : CmpOp} (ho : OpR X (compareOp op) r) (hf : DOp X c r f) (ha : DE X c a m) (hb : DE X c b n) (hm : behindInMarks op b = false) : DT X c (.Compare a [op] [b] pos) (mTest (mBin f m n)) :=
  pt_imp (pt_cmpR ho ha hb hm) (rd_test (rd_bin hf))
/-- a chain of two comparisons -/
def mChain (f f' : D → D → DS → ER D) (m n o : DS → ER D) : DS → ER D := mb m fun d => mb n fun e => mb (f d e) fun z s => match z with
  | .p (.bl true) => (mb o fun g => f' e g) s
  | .p (.bl false) => .ok (.p (.bl false)) s
  | _ => .no
theorem rd_chain {cc : Expr} {o : DS → ER D} {f' : D → D → DS → ER D} (hf : DOp X c r f) (hf' : DOp X c r' f') : ∀ σ H Q, rd X.K c (RD X.K) (mChain f f' m n o) σ H Q → tChain r r' (rd X.K c (RD X.K) m) (rd X.K c (RD X.K) n) (rd X.K c (RD X.K) o) σ H Q := fun σ H Q h => by
  obtain ⟨G, φ, s, S, p⟩ := h
  refine (rd.bind (rel := RD X.K) S p).mono fun v H1 ⟨G1, φ1, s1, d, g1, S1, r1, p1⟩ => ?_
  refine (rd.bind (rel := RD X.K) S1 p1).mono fun u H2 ⟨G2, φ2, s2, e, g2, S2, r2, p2⟩ => ?_
  obtain ⟨G2', φ2', s2', S2', p2'⟩ := rd.bind (rel := RD X.K) S2 p2
  refine hf G2 φ2 s2 σ H2 v u d e _ S2 (r1.up g2) r2 ?_
  -- the first comparison
  have step := rd.bind (rel := RD X.K) (m := f d e) S2 p2
  have p3 : Po X.K c (RD X.K) (f d e s2) G2 φ2 σ (fun z H3 => ∃ G3 φ3 s3 y, Gr G2 φ2 G3 φ3 ∧ Sim X.K c G3 φ3 s3 σ H3 ∧ RD X.K G3 φ3 z y ∧ Po X.K c (RD X.K) ((match y with
    | .p (.bl true) => (mb o fun g => f' e g) s3
    | .p (.bl false) => .ok (.p (.bl false)) s3
    | _ => .no : ER D)) G3 φ3 σ Q) := by
    unfold mb at p2
    cases q : f d e s2 with
    | ok y s3 =>
      rw [q] at p2
      intro z G3 φ3 H3 g3 S3 r3
      exact ⟨G3, φ3, s3, y, g3, S3, r3, Po.up g3 p2⟩
    | exc e1 fs s3 => rw [q] at p2; exact p2
    | no => rw [q] at p2; exact p2
  refine p3.mono fun z H3 ⟨G3, φ3, s3, y, g3, S3, r3, p4⟩ => ?_
  cases y with
  | ref n => exact p4.elim
  | p y =>
    cases y with
    | bl k =>
      refine ⟨k, rp_bl r3, ?_⟩
      cases k with
      | true =>
        refine iteT ((rd.bind (rel := RD X.K) S3 p4).mono fun w H4 ⟨G4, φ4, s4, g, g4, S4, r4, p5⟩ => ?_)
        exact hf' G4 φ4 s4 σ H4 u w e g Q S4 ((r2.up g3).up g4) r4 p5
      | false => exact iteF (Po.ok p4 Gr.refl S3 (.bl false))
    | _ => exact p4.elim
theorem de_chain {op op' : CmpOp} {cc : Expr} {o : DS → ER D} {f' : D → D → DS → ER D} (ho : OpR X (compareOp op) r) (ho' : OpR X (compareOp op') r') (hf : DOp X c r f) (hf' : DOp X c r' f') (ha : DE X c a m) (hb : DE X c b n) (hc : DE X c cc o)
    (hm : lastMarks [op, op'] [b, cc] = false := by with_unfolding_all rfl) : DE X c (.Compare a [op, op'] [b, cc] pos) (mChain f f' m n o) := pe_imp (pe_chain ho ho' ha hb hc hm) (rd_chain (cc := cc) hf hf')
theorem dt_chain {op op' : CmpOp} {cc : Expr} {o : DS → ER D} {f' : D → D → DS → ER D} (ho : OpR X (compareOp op) r) (ho' : OpR X (compareOp op') r') (hf : DOp X c r f) (hf' : DOp X c r' f') (ha : DE X c a m) (hb : DE X c b n) (hc : DE X c cc o)
    (hm : lastMarks [op, op'] [b, cc] = false := by with_unfolding_all rfl) : DT X c (.Compare a [op, op'] [b, cc] pos) (mTest (mChain f f' m n o)) := pt_imp (pt_chain ho ho' ha hb hc hm) (rd_test (rd_chain (cc := cc) hf hf'))
end

section
variable {X : Cx} {c : DC} {pos : Pos} {a b : Expr} {rest : List Expr} {t u : DS → ER Bool} {m n : DS → ER D}
def mAndT (t u : DS → ER Bool) : DS → ER Bool := mb t fun k s => match k with
  | true => u s
  | false => .ok false s
def mOrT (t u : DS → ER Bool) : DS → ER Bool := mb t fun k s => match k with
  | true => .ok true s
  | false => u s
def mNotT (t : DS → ER Bool) : DS → ER Bool := mb t fun k s => .ok (!k) s
theorem dw_and1 (ha : DT X c a t) : DW X c (.BoolOp .And [a] pos) t := pw_and1 ha
theorem dw_or1 (ha : DT X c a t) : DW X c (.BoolOp .Or [a] pos) t := pw_or1 ha
theorem dw_and (ha : DT X c a t) (hb : DW X c (.BoolOp .And (b :: rest) pos) u) : DW X c (.BoolOp .And (a :: b :: rest) pos) (mAndT t u) := pw_imp (pw_and ha hb) fun σ H Q h => by
  obtain ⟨G, φ, s, S, p⟩ := h
  refine (rd.bind (rel := relB) S p).mono fun v H1 ⟨G1, φ1, s1, k, g1, S1, r1, p1⟩ => ?_
  have r1' : v = k := r1
  subst r1'
  cases v with
  | true => exact iteT (rd.of S1 p1)
  | false => exact iteF (Po.ok p1 Gr.refl S1 rfl)
theorem dw_or (ha : DT X c a t) (hb : DW X c (.BoolOp .Or (b :: rest) pos) u) : DW X c (.BoolOp .Or (a :: b :: rest) pos) (mOrT t u) := pw_imp (pw_or ha hb) fun σ H Q h => by
  obtain ⟨G, φ, s, S, p⟩ := h
  refine (rd.bind (rel := relB) S p).mono fun v H1 ⟨G1, φ1, s1, k, g1, S1, r1, p1⟩ => ?_
  have r1' : v = k := r1
  subst r1'
  cases v with
  | true => exact iteT (Po.ok p1 Gr.refl S1 rfl)
  | false => exact iteF (rd.of S1 p1)
theorem dt_bool {op} (h : DW X c (.BoolOp op (a :: rest) pos) t) : DT X c (.BoolOp op (a :: rest) pos) t := PW.pt h
theorem dt_not (ha : DT X c a t) : DT X c (.UnaryOp .Not a pos) (mNotT t) := pt_imp (pt_not ha) fun σ H Q h => by
  obtain ⟨G, φ, s, S, p⟩ := h
  refine (rd.bind (rel := relB) S p).mono fun v H1 ⟨G1, φ1, s1, k, g1, S1, r1, p1⟩ => ?_
  have r1' : v = k := r1
  subst r1'
  exact Po.ok p1 Gr.refl S1 rfl
def mAnd (m n : DS → ER D) : DS → ER D := mb m fun d s => match d with
  | .p (.bl true) => n s
  | .p (.bl false) => .ok (.p (.bl false)) s
  | _ => .no
def mOr (m n : DS → ER D) : DS → ER D := mb m fun d s => match d with
  | .p (.bl true) => .ok (.p (.bl true)) s
  | .p (.bl false) => n s
  | _ => .no
def mNot (m : DS → ER D) : DS → ER D := mb m fun d s => match d with
  | .p (.bl k) => .ok (.p (.bl (!k))) s
  | _ => .no
theorem de_one {op} (ha : DE X c a m) : DE X c (.BoolOp op [a] pos) m := pe_one ha
theorem de_and (ha : DE X c a m) (hb : DE X c (.BoolOp .And (b :: rest) pos) n) : DE X c (.BoolOp .And (a :: b :: rest) pos) (mAnd m n) := pe_imp (pe_and ha hb) fun σ H Q h => by
  obtain ⟨G, φ, s, S, p⟩ := h
  refine (rd.bind (rel := RD X.K) S p).mono fun v H1 ⟨G1, φ1, s1, d, g1, S1, r1, p1⟩ => ?_
  cases d with
  | ref n => exact p1.elim
  | p d =>
    cases d with
    | bl k =>
      refine ⟨k, rp_bl r1, ?_⟩
      cases k with
      | true => exact iteT (rd.of S1 p1)
      | false => exact iteF (Po.ok p1 Gr.refl S1 (.bl false))
    | _ => exact p1.elim
theorem de_or (ha : DE X c a m) (hb : DE X c (.BoolOp .Or (b :: rest) pos) n) : DE X c (.BoolOp .Or (a :: b :: rest) pos) (mOr m n) := pe_imp (pe_or ha hb) fun σ H Q h => by
  obtain ⟨G, φ, s, S, p⟩ := h
  refine (rd.bind (rel := RD X.K) S p).mono fun v H1 ⟨G1, φ1, s1, d, g1, S1, r1, p1⟩ => ?_
  cases d with
  | ref n => exact p1.elim
  | p d =>
    cases d with
    | bl k =>
      refine ⟨k, rp_bl r1, ?_⟩
      cases k with
      | true => exact iteT (Po.ok p1 Gr.refl S1 (.bl true))
      | false => exact iteF (rd.of S1 p1)
    | _ => exact p1.elim
theorem de_not (ha : DE X c a m) : DE X c (.UnaryOp .Not a pos) (mNot m) := pe_imp (pe_not ha) fun σ H Q h => by
  obtain ⟨G, φ, s, S, p⟩ := h
  refine (rd.bind (rel := RD X.K) S p).mono fun v H1 ⟨G1, φ1, s1, d, g1, S1, r1, p1⟩ => ?_
  cases d with
  | ref n => exact p1.elim
  | p d =>
    cases d with
    | bl k => exact ⟨k, rp_bl r1, Po.ok p1 Gr.refl S1 (.bl (!k))⟩
    | _ => exact p1.elim
def mIf (t : DS → ER Bool) (m n : DS → ER D) : DS → ER D := mb t fun k s => match k with
  | true => m s
  | false => n s
theorem de_if {e : Expr} (ht : DT X c e t) (ha : DE X c a m) (hb : DE X c b n) : DE X c (.IfExp e a b pos) (mIf t m n) := pe_imp (pe_ifExp ht ha hb) fun σ H Q h => by
  obtain ⟨G, φ, s, S, p⟩ := h
  refine (rd.bind (rel := relB) S p).mono fun v H1 ⟨G1, φ1, s1, k, g1, S1, r1, p1⟩ => ?_
  have r1' : v = k := r1
  subst r1'
  cases v with
  | true => exact iteT (rd.of S1 p1)
  | false => exact iteF (rd.of S1 p1)
/-- a value's truth -/
def truF (d : D) (s : DS) : Option Bool := match d with
  | .p .non => some false
  | .p (.bl b) => some b
  | .p (.int i) => some (i != 0)
  | .p (.str x) => if x.length ≤ line then some ((x.length : Int) != 0) else none
  | .p (.tup l) => some (!l.isEmpty)
  | .p (.lst l) => some (!l.isEmpty)
  | .p (.obj _ _) => none
  | .ref n => match s.cells[n]? with
    | some (.lst l) => some (!l.isEmpty)
    | some (.froz (.lst l)) => some (!l.isEmpty)
    | _ => none
def mTru (m : DS → ER D) : DS → ER Bool := mb m fun d s => match truF d s with
  | some k => .ok k s
  | none => .no
theorem paired_empty {α β : Type} {R : α → β → Prop} {xs : List α} {ys : List β} (h : Paired R xs ys) : xs.isEmpty = ys.isEmpty := by cases h <;> rfl
theorem truF_ok {K : PySem.W.Frag} {G : Hp} {φ : List Addr} {σ : St} {H : Hp} {s : DS} (S : Sim K c G φ s σ H) {v : V} {d : D} {k : Bool} (r : RD K G φ v d) (e : truF d s = some k) : TruV K v H k := by
  cases d with
  | p d =>
    have r' : Rp K G v d := r
    cases r' with
    | non => exact (Option.some.inj e).symm
    | bl b => exact (Option.some.inj e).symm
    | int i => exact (Option.some.inj e).symm
    | str x =>
      unfold truF at e
      dsimp only at e
      split at e
      · rename_i h
        exact ⟨by rw [line_eq]; exact h, (Option.some.inj e).symm⟩
      · cases e
    | tup q p =>
      refine .inr (.inl ⟨_, Same.seqT S.gh q, ?_⟩)
      rw [paired_empty p]
      exact (Option.some.inj e).symm
    | lst q p =>
      refine .inl ⟨_, S.gh.seq q, ?_⟩
      rw [paired_empty p]
      exact (Option.some.inj e).symm
  | ref n =>
    obtain ⟨a, h1, h2⟩ := r
    subst h2
    unfold truF at e
    dsimp only at e
    cases q : s.cells[n]? with
    | none => rw [q] at e; cases e
    | some x =>
      rw [q] at e
      have ok := S.cell n a x h1 q
      cases x with
      | lst l =>
        obtain ⟨_, vs, hH, r⟩ := ok
        exact .inl ⟨vs, SqL.of hH, by rw [paired_empty r]; exact (Option.some.inj e).symm⟩
      | froz d =>
        cases d with
        | lst l =>
          have ok' : Rp K G (.ref a) (.lst l) := ok
          cases ok' with
          | lst q p => exact .inl ⟨_, S.gh.seq q, by rw [paired_empty p]; exact (Option.some.inj e).symm⟩
        | _ => cases e
theorem dt_tru (ha : DE X c a m) (he : ∀ whole, isTrue a X.env whole = (do let v ← whole; standAt a.pos; holding [v] (truthy v)) := by intro _; rfl) : DT X c a (mTru m) := pt_imp (pt_truth ha he) fun σ H Q h => by
  obtain ⟨G, φ, s, S, p⟩ := h
  refine (rd.bind (rel := RD X.K) S p).mono fun v H1 ⟨G1, φ1, s1, d, g1, S1, r1, p1⟩ => ?_
  cases q : truF d s1 with
  | none => rw [q] at p1; exact p1.elim
  | some k =>
    rw [q] at p1
    exact ⟨k, truF_ok S1 r1 q, Po.ok p1 Gr.refl S1 rfl⟩
end
end DL
namespace DL
open PySem PySem.Spec L2

mutual
def PD.py : PD → PyData
  | .non => .none
  | .bl b => .bool b
  | .int i => .int i
  | .str x => .str x
  | .tup l => .tuple (PD.pys l)
  | .lst l => .list (PD.pys l)
  | .obj _ _ => .none
def PD.pys : List PD → List PyData
  | [] => []
  | d :: ds => d.py :: PD.pys ds
end
mutual
/-- fit for ==: texts well formed, at most n deep, no objects -/
def PD.okq : Nat → PD → Bool
  | _, .non => true
  | _, .bl _ => true
  | _, .int _ => true
  | _, .str x => PySem.PyData.strOk x
  | 0, .tup _ => false
  | 0, .lst _ => false
  | n + 1, .tup l => PD.okqs n l
  | n + 1, .lst l => PD.okqs n l
  | _, .obj _ _ => false
def PD.okqs : Nat → List PD → Bool
  | _, [] => true
  | n, d :: ds => d.okq n && PD.okqs n ds
end
mutual
def PD.eqv : PD → PD → Bool
  | .non, .non => true
  | .bl a, .bl b => a == b
  | .bl a, .int j => (if a then 1 else 0) == j
  | .int i, .bl b => i == (if b then 1 else 0)
  | .int i, .int j => i == j
  | .str x, .str y => x == y
  | .tup xs, .tup ys => PD.eqvs xs ys
  | .lst xs, .lst ys => PD.eqvs xs ys
  | _, _ => false
def PD.eqvs : List PD → List PD → Bool
  | [], [] => true
  | x :: xs, y :: ys => PD.eqv x y && PD.eqvs xs ys
  | _, _ => false
end

mutual
theorem okq_lay : ∀ (n : Nat) (d : PD), d.okq n = true → d.py.canLay0 = true ∧ d.py.depth ≤ n
  | n, .non, _ => by simp [PD.py, PyData.canLay0, PyData.depth]
  | n, .bl _, _ => by simp [PD.py, PyData.canLay0, PyData.depth]
  | n, .int _, _ => by simp [PD.py, PyData.canLay0, PyData.depth]
  | n, .str x, h => by
    have h' : PySem.PyData.strOk x = true := by cases n <;> simpa [PD.okq] using h
    simp [PD.py, PyData.canLay0, PyData.depth, h']
  | 0, .tup l, h => by simp [PD.okq] at h
  | 0, .lst l, h => by simp [PD.okq] at h
  | n + 1, .tup l, h => by
    have h' : PD.okqs n l = true := by simpa [PD.okq] using h
    obtain ⟨a, b⟩ := okqs_lay n l h'
    simp only [PD.py, PyData.canLay0, PyData.depth]
    exact ⟨a, by omega⟩
  | n + 1, .lst l, h => by
    have h' : PD.okqs n l = true := by simpa [PD.okq] using h
    obtain ⟨a, b⟩ := okqs_lay n l h'
    simp only [PD.py, PyData.canLay0, PyData.depth]
    exact ⟨a, by omega⟩
  | n, .obj _ _, h => by cases n <;> simp [PD.okq] at h
theorem okqs_lay : ∀ (n : Nat) (ds : List PD), PD.okqs n ds = true → PyData.canLayAll0 (PD.pys ds) = true ∧ PyData.depthAll (PD.pys ds) ≤ n
  | n, [], _ => by simp [PD.pys, PyData.canLayAll0, PyData.depthAll]
  | n, d :: ds, h => by
    simp only [PD.okqs, Bool.and_eq_true] at h
    obtain ⟨a, b⟩ := okq_lay n d h.1
    obtain ⟨c, e⟩ := okqs_lay n ds h.2
    simp only [PD.pys, PyData.canLayAll0, PyData.depthAll, a, c, Bool.and_self, true_and]
    omega
end
theorem okq_shaped {d : PD} (h : d.okq 60 = true) : SeqAt.shaped d.py = true := by
  obtain ⟨a, b⟩ := okq_lay 60 d h
  unfold SeqAt.shaped
  rw [a, Bool.true_and]
  exact decide_eq_true (by omega)
mutual
theorem py_eqv : ∀ (a b : PD) (n m : Nat), a.okq n = true → b.okq m = true → PyData.eqv a.py b.py = PD.eqv a b
  | .non, b, n, m, _, h => by cases b <;> first | (simp [PD.py, PyData.eqv, PD.eqv]; done) | (cases m <;> simp [PD.okq] at h)
  | .bl _, b, n, m, _, h => by cases b <;> first | (simp [PD.py, PyData.eqv, PD.eqv]; done) | (cases m <;> simp [PD.okq] at h)
  | .int _, b, n, m, _, h => by cases b <;> first | (simp [PD.py, PyData.eqv, PD.eqv]; done) | (cases m <;> simp [PD.okq] at h)
  | .str _, b, n, m, _, h => by cases b <;> first | (simp [PD.py, PyData.eqv, PD.eqv]; done) | (cases m <;> simp [PD.okq] at h)
  | .tup l, b, n, m, ha, h => by
    cases b with
    | tup l' =>
      cases n with
      | zero => simp [PD.okq] at ha
      | succ n =>
        cases m with
        | zero => simp [PD.okq] at h
        | succ m =>
          simp only [PD.okq] at ha h
          simp only [PD.py, PyData.eqv, PD.eqv]
          exact pys_eqv l l' n m ha h
    | obj _ _ => cases m <;> simp [PD.okq] at h
    | _ => simp [PD.py, PyData.eqv, PD.eqv]
  | .lst l, b, n, m, ha, h => by
    cases b with
    | lst l' =>
      cases n with
      | zero => simp [PD.okq] at ha
      | succ n =>
        cases m with
        | zero => simp [PD.okq] at h
        | succ m =>
          simp only [PD.okq] at ha h
          simp only [PD.py, PyData.eqv, PD.eqv]
          exact pys_eqv l l' n m ha h
    | obj _ _ => cases m <;> simp [PD.okq] at h
    | _ => simp [PD.py, PyData.eqv, PD.eqv]
  | .obj _ _, b, n, m, ha, h => by cases n <;> simp [PD.okq] at ha
theorem pys_eqv : ∀ (as bs : List PD) (n m : Nat), PD.okqs n as = true → PD.okqs m bs = true → PyData.eqvAll (PD.pys as) (PD.pys bs) = PD.eqvs as bs
  | [], [], _, _, _, _ => by simp [PD.pys, PyData.eqvAll, PD.eqvs]
  | [], _ :: _, _, _, _, _ => by simp [PD.pys, PyData.eqvAll, PD.eqvs]
  | _ :: _, [], _, _, _, _ => by simp [PD.pys, PyData.eqvAll, PD.eqvs]
  | a :: as, b :: bs, n, m, ha, hb => by
    simp only [PD.okqs, Bool.and_eq_true] at ha hb
    simp only [PD.pys, PyData.eqvAll, PD.eqvs]
    rw [py_eqv a b n m ha.1 hb.1, pys_eqv as bs n m ha.2 hb.2]
end
mutual
theorem Rp.dp {K : PySem.W.Frag} {G : Hp} : ∀ (n : Nat) (d : PD) {v : V}, Rp K G v d → d.okq n = true → Dp K G v d.py
  | _, .non, _, h, _ => by cases h; exact .non
  | _, .bl _, _, h, _ => by cases h; exact .bl _
  | _, .int _, _, h, _ => by cases h; exact .int _
  | _, .str _, _, h, _ => by cases h; exact .str _
  | 0, .tup _, _, h, o => by simp [PD.okq] at o
  | 0, .lst _, _, h, o => by simp [PD.okq] at o
  | n + 1, .tup l, _, h, o => by
    simp only [PD.okq] at o
    cases h with
    | tup q p => exact .tup q (Rp.dps n l p o)
  | n + 1, .lst l, _, h, o => by
    simp only [PD.okq] at o
    cases h with
    | lst q p => exact .lst q (Rp.dps n l p o)
  | _, .obj _ _, _, h, _ => by cases h
theorem Rp.dps {K : PySem.W.Frag} {G : Hp} : ∀ (n : Nat) (ds : List PD) {vs : List V}, Paired (Rp K G) vs ds → PD.okqs n ds = true → DpAll K G vs (PD.pys ds)
  | _, [], _, h, _ => by cases h; exact .nil
  | n, d :: ds, _, h, o => by
    simp only [PD.okqs, Bool.and_eq_true] at o
    cases h with
    | cons r t => exact .cons (Rp.dp n d r o.1) (Rp.dps n ds t o.2)
end
/-- x == y; none where the layer does not tell -/
def eqF (s : DS) (d e : D) : Option Bool := match deepV fuel s d, deepV fuel s e with
  | some x, some y => match x, y with
    | .str a, .str b => some (decide (a = b))
    | x, y => if x.okq 60 && y.okq 60 then some (PD.eqv x y) else none
  | _, _ => none
def fEq : D → D → DS → ER D := fun d e s => match eqF s d e with
  | some k => .ok (.p (.bl k)) s
  | none => .no
def fNe : D → D → DS → ER D := fun d e s => match eqF s d e with
  | some k => .ok (.p (.bl (!k))) s
  | none => .no
section
variable {X : Cx} {c : DC}
def rEq2 (X : Cx) : R2 := fun x y H Q => rEq x y H Q ∨ rEqD X.K x y H Q
def rNe2 (X : Cx) : R2 := fun x y H Q => rNe x y H Q ∨ rNeD X.K x y H Q
theorem op_eq2 (hu : X.A.units + 64 < cLine) : OpR X (compareOp .Eq) (rEq2 X) := op_eq.or (op_eqD hu)
theorem op_ne2 (hu : X.A.units + 64 < cLine) : OpR X (compareOp .NotEq) (rNe2 X) := op_ne.or (op_neD hu)
theorem eqF_ok {K : PySem.W.Frag} {G : Hp} {φ : List Addr} {s : DS} {σ : St} {H : Hp} {x y : V} {d e : D} {k : Bool} (S : Sim K c G φ s σ H) (rx : RD K G φ x d) (ry : RD K G φ y e) (h : eqF s d e = some k) :
    (scal x y = true ∧ k = decide (x = y)) ∨ ∃ a b, Dp K H x a ∧ Dp K H y b ∧ SeqAt.shaped a = true ∧ SeqAt.shaped b = true ∧ k = PyData.eqv a b := by
  unfold eqF at h
  cases q1 : deepV fuel s d with
  | none => rw [q1] at h; cases h
  | some a =>
    cases q2 : deepV fuel s e with
    | none => rw [q1, q2] at h; cases h
    | some b =>
      rw [q1, q2] at h
      have ra := deepV_ok S fuel d rx q1
      have rb := deepV_ok S fuel e ry q2
      have gen : (if a.okq 60 && b.okq 60 then some (PD.eqv a b) else none) = some k → ∃ a b, Dp K H x a ∧ Dp K H y b ∧ SeqAt.shaped a = true ∧ SeqAt.shaped b = true ∧ k = PyData.eqv a b := fun h => by
        split at h
        · rename_i hk
          simp only [Bool.and_eq_true] at hk
          refine ⟨a.py, b.py, Rp.dp 60 a ra hk.1, Rp.dp 60 b rb hk.2, okq_shaped hk.1, okq_shaped hk.2, ?_⟩
          rw [py_eqv a b 60 60 hk.1 hk.2]
          exact (Option.some.inj h).symm
        · cases h
      dsimp only at h
      split at h
      · rename_i u w e1 e2
        cases rp_str ra
        cases rp_str rb
        refine .inl ⟨rfl, ?_⟩
        rw [← Option.some.inj h]
        rw [Bool.eq_iff_iff]
        simp
      · exact .inr (gen h)
theorem d_eq : DOp X c (rEq2 X) fEq := fun G φ s σ H x y d e Q S rx ry p => by
  unfold fEq at p
  cases q : eqF s d e with
  | none => rw [q] at p; exact p.elim
  | some k =>
    rw [q] at p
    have fin := Po.ok p Gr.refl S (show RD X.K G φ (.bl k) (.p (.bl k)) from .bl k)
    rcases eqF_ok S rx ry q with ⟨h1, h2⟩ | ⟨a, b, h1, h2, h3, h4, h5⟩
    · exact .inl ⟨h1, by rw [← h2]; exact fin⟩
    · exact .inr ⟨a, b, h1, h2, h3, h4, by rw [← h5]; exact fin⟩
theorem d_ne : DOp X c (rNe2 X) fNe := fun G φ s σ H x y d e Q S rx ry p => by
  unfold fNe at p
  cases q : eqF s d e with
  | none => rw [q] at p; exact p.elim
  | some k =>
    rw [q] at p
    have fin := Po.ok p Gr.refl S (show RD X.K G φ (.bl (!k)) (.p (.bl (!k))) from .bl (!k))
    rcases eqF_ok S rx ry q with ⟨h1, h2⟩ | ⟨a, b, h1, h2, h3, h4, h5⟩
    · exact .inl ⟨h1, by rw [← h2]; exact fin⟩
    · exact .inr ⟨a, b, h1, h2, h3, h4, by rw [← h5]; exact fin⟩

def i2 (g : Int → Int → ER D) : D → D → DS → ER D := fun d e _ => match d, e with
  | .p (.int i), .p (.int j) => g i j
  | _, _ => .no
/-- an int operation -/
def fI (C : Int → Int → Bool) (g : Int → Int → PD) : D → D → DS → ER D := fun d e s => match d, e with
  | .p (.int i), .p (.int j) => if C i j then .ok (.p (g i j)) s else .no
  | _, _ => .no
theorem d_I {r : R2} {C : Int → Int → Bool} {g : Int → Int → PD} {gv : Int → Int → V} (hg : ∀ i j G, Rp X.K G (gv i j) (g i j)) (hr : ∀ i j H Q, C i j = true → Q (gv i j) H → r (.int i) (.int j) H Q) : DOp X c r (fI C g) := fun G φ s σ H x y d e Q S rx ry p => by
  unfold fI at p
  split at p
  · rename_i i j
    split at p
    · rename_i hc
      cases rp_int rx
      cases rp_int ry
      exact hr i j H Q hc (Po.ok p Gr.refl S (hg i j G))
    · exact p.elim
  · exact p.elim
abbrev yes2 : Int → Int → Bool := fun _ _ => true
def fSub := fI yes2 fun i j => .int (i - j)
theorem d_sub : DOp X c (rI0 fun i j => .int (i - j)) fSub := d_I (fun _ _ _ => .int _) fun i j H Q _ q => ⟨i, j, rfl, rfl, q⟩
def bigC (i j : Int) : Bool := decide (i.natAbs.log2 + j.natAbs.log2 < 1000000)
def fMulI := fI bigC fun i j => .int (i * j)
theorem d_mulI : DOp X c (rI CMulW fun i j => .int (i * j)) fMulI := d_I (fun _ _ _ => .int _) fun i j H Q h q => ⟨i, j, rfl, rfl, (show i.natAbs.log2 + j.natAbs.log2 < 1000000 from of_decide_eq_true h), q⟩
def divC (_ j : Int) : Bool := decide (j ≠ 0) && decide (j.natAbs.log2 < 9000)
def CDivA (_ j : Int) : Prop := j ≠ 0 ∧ j.natAbs.log2 < 9000
theorem op_fdivA : OpR X (binaryOp .FloorDiv) (rI CDivA fun i j => .int (i.fdiv j)) := opI fun i j _ _ _ _ _ hc q => PyProof.Rows.floordiv_int hc.1 q (.inl (PyProof.noPylong_of_log2 hc.2))
def fDiv := fI divC fun i j => .int (i.fdiv j)
theorem d_div : DOp X c (rI CDivA fun i j => .int (i.fdiv j)) fDiv := d_I (fun _ _ _ => .int _) fun i j H Q h q => by
  unfold divC at h
  rw [Bool.and_eq_true] at h
  exact ⟨i, j, rfl, rfl, ⟨of_decide_eq_true h.1, of_decide_eq_true h.2⟩, q⟩
def fMod := fI (fun _ j => decide (j ≠ 0)) fun i j => .int (i.fmod j)
theorem d_mod : DOp X c (rI (fun _ j => j ≠ 0) fun i j => .int (i.fmod j)) fMod := d_I (fun _ _ _ => .int _) fun i j H Q h q => ⟨i, j, rfl, rfl, of_decide_eq_true h, q⟩
def powC (i j : Int) : Bool := decide (0 ≤ j) && (decide (j ≤ 1000000) && decide (i.natAbs < 2 ^ 64))
def fPow := fI powC fun i j => .int (i ^ j.toNat)
theorem d_pow : DOp X c (rI CPow fun i j => .int (i ^ j.toNat)) fPow := d_I (fun _ _ _ => .int _) fun i j H Q h q => by
  unfold powC at h
  simp only [Bool.and_eq_true, decide_eq_true_eq] at h
  exact ⟨i, j, rfl, rfl, h, q⟩
/-- < of whole numbers, of texts -/
def fOrd (g : Int → Int → Bool) (gs : List Nat → List Nat → Bool) : D → D → DS → ER D := fun d e s => match d, e with
  | .p (.int i), .p (.int j) => .ok (.p (.bl (g i j))) s
  | .p (.str i), .p (.str j) => .ok (.p (.bl (gs i.cps.toList j.cps.toList))) s
  | _, _ => .no
def rOrd (g : Int → Int → Bool) (gs : List Nat → List Nat → Bool) : R2 := fun x y H Q => (rI0 fun i j => .bl (g i j)) x y H Q ∨ ∃ i j, x = .str i ∧ y = .str j ∧ Q (.bl (gs i.cps.toList j.cps.toList)) H
theorem d_ord {g : Int → Int → Bool} {gs : List Nat → List Nat → Bool} : DOp X c (rOrd g gs) (fOrd g gs) := fun G φ s σ H x y d e Q S rx ry p => by
  unfold fOrd at p
  split at p
  · rename_i i j
    cases rp_int rx
    cases rp_int ry
    exact .inl ⟨i, j, rfl, rfl, Po.ok p Gr.refl S (.bl _)⟩
  · rename_i i j
    cases rp_str rx
    cases rp_str ry
    exact .inr ⟨i, j, rfl, rfl, Po.ok p Gr.refl S (.bl _)⟩
  · exact p.elim
abbrev fLt := fOrd (fun i j => decide (i < j)) fun i j => decide (i < j)
abbrev fLe := fOrd (fun i j => decide (i ≤ j)) fun i j => !decide (j < i)
abbrev fGt := fOrd (fun i j => decide (j < i)) fun i j => decide (j < i)
abbrev fGe := fOrd (fun i j => decide (j ≤ i)) fun i j => !decide (i < j)
theorem op_lt2 : OpR X (compareOp .Lt) (rOrd (fun i j => decide (i < j)) fun i j => decide (i < j)) := op_lt.or op_lt_str
theorem op_le2 : OpR X (compareOp .LtE) (rOrd (fun i j => decide (i ≤ j)) fun i j => !decide (j < i)) := op_le.or op_le_str
theorem op_gt2 : OpR X (compareOp .Gt) (rOrd (fun i j => decide (j < i)) fun i j => decide (j < i)) := op_gt.or op_gt_str
theorem op_ge2 : OpR X (compareOp .GtE) (rOrd (fun i j => decide (j ≤ i)) fun i j => !decide (i < j)) := op_ge.or op_ge_str
def fNeg : D → DS → ER D := fun d s => match d with
  | .p (.int i) => .ok (.p (.int (-i))) s
  | _ => .no
theorem d_neg : DUn X c (rU fun i => .int (-i)) fNeg := fun G φ s σ H x d Q S rx p => by
  unfold fNeg at p
  split at p
  · rename_i i
    cases rp_int rx
    exact ⟨i, rfl, Po.ok p Gr.refl S (.int _)⟩
  · exact p.elim
end

section
variable {X : Cx} {c : DC}
theorem paired_append {α β : Type} {R : α → β → Prop} : ∀ {xs xs' : List α} {ys ys' : List β}, Paired R xs ys → Paired R xs' ys' → Paired R (xs ++ xs') (ys ++ ys')
  | _, _, _, _, .nil, h => h
  | _, _, _, _, .cons a t, h => .cons a (paired_append t h)
def rCatL (K : PySem.W.Frag) : R2 := fun x y H Q => ∃ l b xs zs, x = .ref l ∧ y = .ref b ∧ SqL K H l xs ∧ SqL K H b zs ∧ xs.length + zs.length ≤ sizeLine ∧ ∀ p, H p = none → Q (.ref p) (upd H p (.lst (xs ++ zs)))
theorem op_catL : OpR X (binaryOp .Add) (rCatL X.K) := by
  intro pins s σ H x y v u Q I rx ry h
  obtain ⟨l, b, xs, zs, rfl, rfl, hH, hB, hz, q⟩ := h
  cases rx
  cases ry
  obtain ⟨its, r, pl, _⟩ := I.list hH
  obtain ⟨its2, r2, pl2, _⟩ := I.list hB
  have hl := r.length
  have hl2 := r2.length
  obtain ⟨⟨cls, dd, data, sl⟩, n, ho, hc, _, hd⟩ := pl
  obtain ⟨⟨cls2, dd2, data2, sl2⟩, n2, ho2, hc2, _, hd2⟩ := pl2
  simp only at hc hd hc2 hd2
  subst hc hd hc2 hd2
  have e : its.toArray ++ its2.toArray = (its ++ its2).toArray := by simp
  refine PySem.concat_meets ⟨_, ho, rfl⟩ ⟨_, ho2, rfl⟩ noFill_list_add seq_list_add PySem.F.slot_list_add PySem.F.entry_list_add (PySem.F.args_list_add_2 _ _) (PyProof.Rows.list_addW l b its.toArray its2.toArray n n2 dd dd2 sl sl2 (by rw [List.size_toArray, List.size_toArray]; omega)) ⟨ho, ho2, ?_⟩
  rw [e]
  exact ⟨.ref _, _, I.lnew (t' := s.toks) (r.append r2) (by rw [List.length_append]; omega), rfl, q _ I.fresh⟩
def rAddAll (X : Cx) : R2 := fun x y H Q => ((rI0 fun i j => .int (i + j)) x y H Q ∨ (∃ i j, x = .str i ∧ y = .str j ∧ i.length + j.length ≤ sizeLine ∧ Q (.str (i ++ j)) H)) ∨ (rCatA X.K x y H Q ∨ rCatL X.K x y H Q)
theorem op_addAll : OpR X (binaryOp .Add) (rAddAll X) := (op_add.or op_add_str).or (op_catA.or op_catL)
def fAdd : D → D → DS → ER D := fun d e s => match d, e with
  | .p (.int i), .p (.int j) => .ok (.p (.int (i + j))) s
  | .p (.str i), .p (.str j) => if i.length + j.length ≤ line then .ok (.p (.str (i ++ j))) s else .no
  | .p (.tup a), .p (.tup b) => if a.length + b.length ≤ line then .ok (.p (.tup (a ++ b))) s else .no
  | d, e => match listOf s d, listOf s e with
    | some l, some l' => fLst (l ++ l') s
    | _, _ => .no
theorem d_add : DOp X c (rAddAll X) fAdd := fun G φ s σ H x y d e Q S rx ry p => by
  unfold fAdd at p
  split at p
  · rename_i i j
    cases rp_int rx
    cases rp_int ry
    exact .inl (.inl ⟨i, j, rfl, rfl, Po.ok p Gr.refl S (.int _)⟩)
  · rename_i i j
    cases rp_str rx
    cases rp_str ry
    split at p
    · rename_i h
      exact .inl (.inr ⟨i, j, rfl, rfl, by rw [line_eq]; exact h, Po.ok p Gr.refl S (.str _)⟩)
    · exact p.elim
  · rename_i a b
    split at p
    · rename_i hl
      have rx' : Rp X.K G x (.tup a) := rx
      have ry' : Rp X.K G y (.tup b) := ry
      cases rx' with
      | @tup a1 xs _ qx px =>
        cases ry' with
        | @tup a2 ys _ qy py =>
          have ly : ys.length = b.length := paired_length py
          have lx : xs.length = a.length := paired_length px
          refine .inr (.inl ⟨a1, a2, xs, ys, rfl, rfl, Same.seqT S.gh qx, Same.seqT S.gh qy, by rw [line_eq, lx, ly]; exact hl, fun e => ?_, fun e1 e2 => ?_, fun e1 e2 t ht => ?_⟩)
          · subst e
            cases px
            exact Po.ok p Gr.refl S (show RD X.K G φ (.ref a2) (.p (.tup ([] ++ b))) from .tup qy py)
          · subst e2
            cases py
            rw [List.append_nil] at p
            exact Po.ok p Gr.refl S (show RD X.K G φ (.ref a1) (.p (.tup a)) from .tup qx px)
          · obtain ⟨S3, g3⟩ := S.lay (o := .tup (xs ++ ys)) ht
            exact Po.ok p g3 S3 (.tup (SqT.of upd_same) (Rp.ups g3.g _ (paired_append px py)))
    · exact p.elim
  · cases q1 : listOf s d with
    | none => rw [q1] at p; exact p.elim
    | some l =>
      cases q2 : listOf s e with
      | none => rw [q1, q2] at p; exact p.elim
      | some l' =>
        rw [q1, q2] at p
        obtain ⟨a, xs, rfl, ha, pa⟩ := listOf_ok S rx q1
        obtain ⟨b, ys, rfl, hb, pb⟩ := listOf_ok S ry q2
        obtain ⟨hz, fin⟩ := lst_new S (paired_append pa pb) p
        exact .inr (.inr ⟨a, b, xs, ys, rfl, rfl, ha, hb, by rw [List.length_append] at hz; exact hz, fin⟩)
theorem op_mulAll : OpR X (binaryOp .Mult) (fun x y H Q => (rI CMulW fun i j => .int (i * j)) x y H Q ∨ rRep x y H Q) := op_mulW.or op_rep
def fMul : D → D → DS → ER D := fun d e s => match d, e with
  | .p (.int i), .p (.int j) => if bigC i j then .ok (.p (.int (i * j))) s else .no
  | .ref n, .p (.int k) => match s.cells[n]? with
    | some (.lst l) => if (-(2 ^ 63) ≤ k ∧ k < 2 ^ 63) ∧ l.length * k.toNat ≤ line then fLst (List.replicate k.toNat l).flatten s else .no
    | _ => .no
  | _, _ => .no
theorem paired_rep {α β : Type} {R : α → β → Prop} {xs : List α} {ys : List β} (h : Paired R xs ys) : ∀ k : Nat, Paired R (List.replicate k xs).flatten (List.replicate k ys).flatten
  | 0 => .nil
  | k + 1 => by
    rw [List.replicate_succ, List.replicate_succ, List.flatten_cons, List.flatten_cons]
    exact paired_append h (paired_rep h k)
theorem d_mul : DOp X c (fun x y H Q => (rI CMulW fun i j => .int (i * j)) x y H Q ∨ rRep x y H Q) fMul := fun G φ s σ H x y d e Q S rx ry p => by
  unfold fMul at p
  split at p
  · rename_i i j
    cases rp_int rx
    cases rp_int ry
    split at p
    · rename_i h
      exact .inl ⟨i, j, rfl, rfl, (show i.natAbs.log2 + j.natAbs.log2 < 1000000 from of_decide_eq_true h), Po.ok p Gr.refl S (.int _)⟩
    · exact p.elim
  · rename_i n k
    obtain ⟨a, h1, rfl⟩ := rx
    cases rp_int ry
    split at p
    · rename_i l hc
      split at p
      · rename_i hk
        obtain ⟨_, vs, hH, r⟩ := S.cell n a _ h1 hc
        obtain ⟨hz, fin⟩ := lst_new S (paired_rep r k.toNat) p
        exact .inr ⟨a, k, vs, rfl, rfl, hH, hk.1.1, hk.1.2, by rw [line_eq, paired_length r]; exact hk.2, fin⟩
      · exact p.elim
    · exact p.elim
  · exact p.elim
end

section
variable {X : Cx} {c : DC}
def isNon : D → Bool
  | .p .non => true
  | _ => false
def fIs : D → D → DS → ER D := fun d e s => match e with
  | .p .non => .ok (.p (.bl (isNon d))) s
  | .p (.bl b) => match d with
    | .p (.bl a) => .ok (.p (.bl (decide (a = b)))) s
    | _ => .no
  | _ => .no
def fIsNot : D → D → DS → ER D := fun d e s => match e with
  | .p .non => .ok (.p (.bl (!isNon d))) s
  | .p (.bl b) => match d with
    | .p (.bl a) => .ok (.p (.bl (!decide (a = b)))) s
    | _ => .no
  | _ => .no
def rIs : R2 := fun x y H Q => (y = .non ∧ Q (.bl (decide (x = .non))) H) ∨ ∃ a b, x = .bl a ∧ y = .bl b ∧ Q (.bl (decide (a = b))) H
def rIsNot : R2 := fun x y H Q => (y = .non ∧ Q (.bl (!decide (x = .non))) H) ∨ ∃ a b, x = .bl a ∧ y = .bl b ∧ Q (.bl (!decide (a = b))) H
theorem op_is2 : OpR X (compareOp .Is) rIs := op_isN.or op_is_bl
theorem op_isnot2 : OpR X (compareOp .IsNot) rIsNot := op_notN.or op_isnot_bl
theorem isNon_ok {K : PySem.W.Frag} {G : Hp} {φ : List Addr} {x : V} {d : D} (r : RD K G φ x d) : decide (x = .non) = isNon d := by
  cases d with
  | ref n =>
    obtain ⟨a, _, rfl⟩ := r
    rfl
  | p d =>
    have r' : Rp K G x d := r
    cases r' <;> rfl
theorem d_is : DOp X c rIs fIs := fun G φ s σ H x y d e Q S rx ry p => by
  unfold fIs at p
  split at p
  · refine .inl ⟨rp_non ry, ?_⟩
    rw [isNon_ok rx]
    exact Po.ok p Gr.refl S (.bl _)
  · rename_i b
    split at p
    · rename_i a
      cases rp_bl rx
      cases rp_bl ry
      exact .inr ⟨a, b, rfl, rfl, Po.ok p Gr.refl S (.bl _)⟩
    · exact p.elim
  · exact p.elim
theorem d_isnot : DOp X c rIsNot fIsNot := fun G φ s σ H x y d e Q S rx ry p => by
  unfold fIsNot at p
  split at p
  · refine .inl ⟨rp_non ry, ?_⟩
    rw [isNon_ok rx]
    exact Po.ok p Gr.refl S (.bl _)
  · rename_i b
    split at p
    · rename_i a
      cases rp_bl rx
      cases rp_bl ry
      exact .inr ⟨a, b, rfl, rfl, Po.ok p Gr.refl S (.bl _)⟩
    · exact p.elim
  · exact p.elim
end

section
variable {X : Cx} {c : DC} {pos : Pos} {a b : Expr} {m n : DS → ER D}
theorem paired_get {α β : Type} {R : α → β → Prop} : ∀ {xs : List α} {ys : List β} {i : Nat} {y : β}, Paired R xs ys → ys[i]? = some y → ∃ x, xs[i]? = some x ∧ R x y
  | _, _, _, _, .nil, e => by simp at e
  | _, _, 0, _, .cons r _, e => by simp at e; subst e; exact ⟨_, rfl, r⟩
  | _, _, i + 1, y, .cons _ t, e => by
    obtain ⟨x, h1, h2⟩ := paired_get (i := i) (y := y) t (by simpa using e)
    exact ⟨x, by simpa using h1, h2⟩
theorem paired_at {α β : Type} {R : α → β → Prop} {xs : List α} {ys : List β} {i : Int} {y : β} (h : Paired R xs ys) (e : atI ys i = some y) : ∃ x, atI xs i = some x ∧ R x y := by
  unfold atI at e ⊢
  rw [paired_length h]
  cases q : ixN ys.length i with
  | none => rw [q] at e; cases e
  | some j =>
    rw [q] at e
    exact paired_get h e
def seqOf (s : DS) (d : D) : Option (List D) := match tupOf d with
  | some l => some (l.map .p)
  | none => listOf s d
def fIx : D → D → DS → ER D := fun d e s => match e with
  | .p (.int i) => match d with
    | .p (.str z) => if z.length ≤ line then match atI z.cps.toList i with
        | some ch => .ok (.p (.str ⟨#[ch]⟩)) s
        | none => .no
      else .no
    | d => match seqOf s d with
      | some l => match atI l i with
        | some x => .ok x s
        | none => .no
      | none => .no
  | _ => .no
theorem seqOf_ok {K : PySem.W.Frag} {G : Hp} {φ : List Addr} {s : DS} {σ : St} {H : Hp} (S : Sim K c G φ s σ H) {v : V} {d : D} {l : List D} (r : RD K G φ v d) (e : seqOf s d = some l) : ∃ a xs, v = .ref a ∧ (SqL K H a xs ∨ SqT K H a xs) ∧ RDs K G φ xs l := by
  unfold seqOf at e
  cases q : tupOf d with
  | some t =>
    rw [q] at e
    cases Option.some.inj e
    obtain ⟨a, xs, h1, h2, h3⟩ := tupOf_ok S r q
    exact ⟨a, xs, h1, .inr h2, paired_map (fun _ _ z => z) h3⟩
  | none =>
    rw [q] at e
    obtain ⟨a, xs, h1, h2, h3⟩ := listOf_ok S r e
    exact ⟨a, xs, h1, .inl h2, h3⟩
theorem d_ix : DOp X c (rIx X.K) fIx := fun G φ s σ H x y d e Q S rx ry p => by
  have gen : ∀ i, y = .int i → Po X.K c (RD X.K) ((match seqOf s d with
      | some l => match atI l i with
        | some x => .ok x s
        | none => .no
      | none => .no : ER D)) G φ σ Q → rIx X.K x y H Q := fun i ey p => by
    subst ey
    cases q : seqOf s d with
    | none => rw [q] at p; exact p.elim
    | some l =>
      rw [q] at p
      dsimp only at p
      obtain ⟨a, xs, rfl, h1, h2⟩ := seqOf_ok S rx q
      cases q2 : atI l i with
      | none => rw [q2] at p; exact p.elim
      | some z =>
        rw [q2] at p
        obtain ⟨v, h3, h4⟩ := paired_at h2 q2
        have fin := Po.ok p Gr.refl S h4
        rcases h1 with h1 | h1
        · exact .inl ⟨a, xs, i, v, rfl, rfl, h1, h3, fin⟩
        · exact .inr (.inl ⟨a, xs, i, v, rfl, rfl, h1, h3, fin⟩)
  unfold fIx at p
  split at p
  · rename_i i
    split at p
    · rename_i z
      cases rp_str rx
      split at p
      · rename_i hl
        cases q : atI z.cps.toList i with
        | none => rw [q] at p; exact p.elim
        | some ch =>
          rw [q] at p
          cases rp_int ry
          exact .inr (.inr ⟨z, i, ch, rfl, rfl, by rw [line_eq]; exact hl, q, Po.ok p Gr.refl S (.str _)⟩)
      · exact p.elim
    · exact gen i (rp_int ry) p
  · exact p.elim
theorem de_ix (ha : DE X c a m) (hb : DE X c b n) (hs : PlainIx b := by exact fun _ _ => rfl) : DE X c (.Subscript a b pos) (mBin fIx m n) := pe_imp (pe_ix ix_seq ha hb hs) (rd_bin d_ix)
end

section
variable {X : Cx} {c : DC} {pos p : Pos} {x : Str} {idn T : String} {e : Expr} {es : List Expr} {n : DS → ER (List D)} {r : List V → Hp → VK → Prop} {f : List D → DS → ER D}
theorem rd_call (hf : DCall X c r f) : ∀ σ H Q, rd X.K c (RD X.K) (mCB f n) σ H Q → tCB r (rd X.K c (RDs X.K) n) σ H Q := fun σ H Q h => by
  obtain ⟨G, φ, s, S, p⟩ := h
  refine (rd.bind (rel := RDs X.K) S p).mono fun vs H1 ⟨G1, φ1, s1, ds, g1, S1, r1, p1⟩ => ?_
  exact hf G1 φ1 s1 σ H1 vs ds Q S1 r1 p1
theorem de_callB (hc : CallR X (.builtin idn) r) (hf : DCall X c r f) (ha : DA X c (e :: es) n) (hg : Gl X x := by rfl) (hm : X.mg x = none := by assumption) (hv : bootBuiltins x = some (.builtin idn) := by decide +kernel) (hn : x ≠ "__name__" := by decide) (hdb : (x == ("__debug__" : Str)) = false := by decide)
    (he : starEach (e :: es) X.env = (false, eval e X.env) :: starEach es X.env := by rfl) (hpl : (backTo pos (starEach es X.env)).any (·.1) = false := by rfl) : DE X c (.Call (.Name x p) (e :: es) [] pos) (mCB f n) :=
  pe_imp (pe_callB hc hg hm hv ha hn hdb he hpl) (rd_call hf)
theorem de_callTy (hc : CallR X (.type T) r) (hf : DCall X c r f) (ha : DA X c (e :: es) n) (hg : Gl X x := by rfl) (hm : X.mg x = none := by assumption) (hv : bootBuiltins x = some (.type T) := by decide +kernel) (hn : x ≠ "__name__" := by decide) (hdb : (x == ("__debug__" : Str)) = false := by decide)
    (he : starEach (e :: es) X.env = (false, eval e X.env) :: starEach es X.env := by rfl) (hpl : (backTo pos (starEach es X.env)).any (·.1) = false := by rfl) : DE X c (.Call (.Name x p) (e :: es) [] pos) (mCB f n) :=
  pe_imp (pe_callTy hc hg hm hv ha hn hdb he hpl) (rd_call hf)
theorem de_callBfun (hc : CallR X (.builtin idn) r) (hf : DCall X c r f) (ha : DA X c (e :: es) n) (hm : X.mg x = some (.builtin idn)) (hg : Gl X x := by rfl) (hdb : (x == ("__debug__" : Str)) = false := by decide)
    (he : starEach (e :: es) X.env = (false, eval e X.env) :: starEach es X.env := by rfl) (hpl : (backTo pos (starEach es X.env)).any (·.1) = false := by rfl) : DE X c (.Call (.Name x p) (e :: es) [] pos) (mCB f n) :=
  pe_imp (pe_callBfun hc hg hm ha hdb he hpl) (rd_call hf)
theorem paired1 {R : V → D → Prop} {xs : List V} {d : D} (h : Paired R xs [d]) : ∃ v, xs = [v] ∧ R v d := by
  cases h with
  | cons a b => cases b; exact ⟨_, rfl, a⟩
theorem paired2 {R : V → D → Prop} {xs : List V} {d e : D} (h : Paired R xs [d, e]) : ∃ v u, xs = [v, u] ∧ R v d ∧ R u e := by
  cases h with
  | cons a b =>
    cases b with
    | cons a' b' => cases b'; exact ⟨_, _, rfl, a, a'⟩
def fLen : List D → DS → ER D := fun ds s => match ds with
  | [.p (.str z)] => if z.length ≤ line then .ok (.p (.int z.length)) s else .no
  | [d] => match seqOf s d with
    | some l => .ok (.p (.int l.length)) s
    | none => .no
  | _ => .no
theorem d_len : DCall X c (fun xs H Q => ∃ x n, xs = [x] ∧ LenV X.K x H n ∧ Q (.int n) H) fLen := fun G φ s σ H xs ds Q S r p => by
  unfold fLen at p
  split at p
  · rename_i z
    obtain ⟨v, rfl, r1⟩ := paired1 r
    cases rp_str r1
    split at p
    · rename_i hl
      exact ⟨_, z.length, rfl, (show z.length ≤ sizeLine ∧ z.length = z.length from ⟨by rw [line_eq]; exact hl, rfl⟩), Po.ok p Gr.refl S (.int _)⟩
    · exact p.elim
  · rename_i d _
    obtain ⟨v, rfl, r1⟩ := paired1 r
    cases q : seqOf s d with
    | none => rw [q] at p; exact p.elim
    | some l =>
      rw [q] at p
      obtain ⟨a, xs, rfl, h1, h2⟩ := seqOf_ok S r1 q
      refine ⟨_, l.length, rfl, ?_, Po.ok p Gr.refl S (.int _)⟩
      rcases h1 with h1 | h1
      · exact .inl ⟨xs, h1, (paired_length h2).symm⟩
      · exact .inr ⟨xs, h1, (paired_length h2).symm⟩
  · exact p.elim
def fAbs : List D → DS → ER D := fun ds s => match ds with
  | [.p (.int i)] => .ok (.p (.int (if i < 0 then -i else i))) s
  | _ => .no
theorem d_abs : DCall X c (fun xs H Q => ∃ i, xs = [.int i] ∧ Q (.int (if i < 0 then -i else i)) H) fAbs := fun G φ s σ H xs ds Q S r p => by
  unfold fAbs at p
  split at p
  · rename_i i
    obtain ⟨v, rfl, r1⟩ := paired1 r
    cases rp_int r1
    exact ⟨i, rfl, Po.ok p Gr.refl S (.int _)⟩
  · exact p.elim
def fInt : List D → DS → ER D := fun ds s => match ds with
  | [.p (.int i)] => .ok (.p (.int i)) s
  | [.p (.bl k)] => .ok (.p (.int (if k then 1 else 0))) s
  | _ => .no
theorem d_int : DCall X c (fun xs H Q => (∃ i, xs = [.int i] ∧ Q (.int i) H) ∨ ∃ k, xs = [.bl k] ∧ Q (.int (if k then 1 else 0)) H) fInt := fun G φ s σ H xs ds Q S r p => by
  unfold fInt at p
  split at p
  · rename_i i
    obtain ⟨v, rfl, r1⟩ := paired1 r
    cases rp_int r1
    exact .inl ⟨i, rfl, Po.ok p Gr.refl S (.int _)⟩
  · rename_i i
    obtain ⟨v, rfl, r1⟩ := paired1 r
    cases rp_bl r1
    exact .inr ⟨i, rfl, Po.ok p Gr.refl S (.int _)⟩
  · exact p.elim
def fStr : List D → DS → ER D := fun ds s => match ds with
  | [.p (.int i)] => if i.natAbs.log2 < 1920 then .ok (.p (.str (toString i))) s else .no
  | _ => .no
theorem d_str : DCall X c (fun xs H Q => ∃ i, xs = [.int i] ∧ i.natAbs.log2 < 1920 ∧ Q (.str (toString i)) H) fStr := fun G φ s σ H xs ds Q S r p => by
  unfold fStr at p
  split at p
  · rename_i i
    obtain ⟨v, rfl, r1⟩ := paired1 r
    cases rp_int r1
    split at p
    · rename_i h
      exact ⟨i, rfl, h, Po.ok p Gr.refl S (.str _)⟩
    · exact p.elim
  · exact p.elim
def fGcd : List D → DS → ER D := fun ds s => match ds with
  | [.p (.int i), .p (.int j)] => .ok (.p (.int ((Nat.gcd i.natAbs j.natAbs : Nat) : Int))) s
  | _ => .no
theorem d_gcd : DCall X c rGcd fGcd := fun G φ s σ H xs ds Q S r p => by
  unfold fGcd at p
  split at p
  · rename_i i j
    obtain ⟨v, u, rfl, r1, r2⟩ := paired2 r
    cases rp_int r1
    cases rp_int r2
    exact ⟨i, j, rfl, Po.ok p Gr.refl S (.int _)⟩
  · exact p.elim
def bools : List D → Option (List Bool)
  | [] => some []
  | .p (.bl b) :: r => (bools r).map fun bs => b :: bs
  | _ => none
theorem bools_ok {K : PySem.W.Frag} {G : Hp} {φ : List Addr} : ∀ {l : List D} {xs : List V} {bs : List Bool}, RDs K G φ xs l → bools l = some bs → xs = bs.map V.bl
  | [], _, _, r, e => by cases r; cases Option.some.inj e; rfl
  | .p (.bl b) :: l, _, _, .cons r t, e => by
    obtain ⟨bs, e1, e2⟩ := Option.map_eq_some_iff.mp e
    subst e2
    rw [bools_ok t e1]
    cases rp_bl r
    rfl
  | .p .non :: l, _, _, .cons r t, e => by cases e
  | .p (.int _) :: l, _, _, .cons r t, e => by cases e
  | .p (.str _) :: l, _, _, .cons r t, e => by cases e
  | .p (.tup _) :: l, _, _, .cons r t, e => by cases e
  | .p (.lst _) :: l, _, _, .cons r t, e => by cases e
  | .p (.obj _ _) :: l, _, _, .cons r t, e => by cases e
  | .ref _ :: l, _, _, .cons r t, e => by cases e
def fAll : List D → DS → ER D := fun ds s => match ds with
  | [d] => match listOf s d with
    | some l => match bools l with
      | some bs => .ok (.p (.bl (bs.all id))) s
      | none => .no
    | none => .no
  | _ => .no
def fAny : List D → DS → ER D := fun ds s => match ds with
  | [d] => match listOf s d with
    | some l => match bools l with
      | some bs => .ok (.p (.bl (bs.any id))) s
      | none => .no
    | none => .no
  | _ => .no
theorem d_all : DCall X c (rAll X.K) fAll := fun G φ s σ H xs ds Q S r p => by
  unfold fAll at p
  split at p
  · rename_i d
    obtain ⟨v, rfl, r1⟩ := paired1 r
    cases q : listOf s d with
    | none => rw [q] at p; exact p.elim
    | some l =>
      rw [q] at p
      dsimp only at p
      obtain ⟨a, xs, rfl, h1, h2⟩ := listOf_ok S r1 q
      cases q2 : bools l with
      | none => rw [q2] at p; exact p.elim
      | some bs =>
        rw [q2] at p
        have e := bools_ok h2 q2
        subst e
        exact ⟨a, bs, rfl, h1, Po.ok p Gr.refl S (.bl _)⟩
  · exact p.elim
theorem d_any : DCall X c (rAny X.K) fAny := fun G φ s σ H xs ds Q S r p => by
  unfold fAny at p
  split at p
  · rename_i d
    obtain ⟨v, rfl, r1⟩ := paired1 r
    cases q : listOf s d with
    | none => rw [q] at p; exact p.elim
    | some l =>
      rw [q] at p
      dsimp only at p
      obtain ⟨a, xs, rfl, h1, h2⟩ := listOf_ok S r1 q
      cases q2 : bools l with
      | none => rw [q2] at p; exact p.elim
      | some bs =>
        rw [q2] at p
        have e := bools_ok h2 q2
        subst e
        exact ⟨a, bs, rfl, h1, Po.ok p Gr.refl S (.bl _)⟩
  · exact p.elim
/-- tuple(x) -/
def fTuple : List D → DS → ER D := fun ds s => match ds with
  | [.p (.tup l)] => .ok (.p (.tup l)) s
  | [d] => match listOf s d with
    | some l => match frzs fuel s l with
      | some (xs, s') => .ok (.p (.tup xs)) s'
      | none => .no
    | none => .no
  | _ => .no
theorem d_tuple : DCall X c (fun xs H Q => ∃ p ys, xs = [.ref p] ∧ ((SqL X.K H p ys ∧ ∀ l, H l = none → Q (.ref l) (upd H l (.tup ys))) ∨ (SqT X.K H p ys ∧ Q (.ref p) H))) fTuple := fun G φ s σ H xs ds Q S r p => by
  unfold fTuple at p
  split at p
  · rename_i l
    obtain ⟨v, rfl, r1⟩ := paired1 r
    have r' : Rp X.K G v (.tup l) := r1
    cases r' with
    | @tup a xs _ q pr => exact ⟨a, xs, rfl, .inr ⟨Same.seqT S.gh q, Po.ok p Gr.refl S (show RD X.K G φ (.ref a) (.p (.tup l)) from .tup q pr)⟩⟩
  · rename_i d _
    obtain ⟨v, rfl, r1⟩ := paired1 r
    cases q : listOf s d with
    | none => rw [q] at p; exact p.elim
    | some l =>
      rw [q] at p
      dsimp only at p
      obtain ⟨a, xs, rfl, h1, h2⟩ := listOf_ok S r1 q
      cases q2 : frzs fuel s l with
      | none => rw [q2] at p; exact p.elim
      | some z =>
        obtain ⟨ys, s'⟩ := z
        rw [q2] at p
        obtain ⟨G2, g2, S2, h3⟩ := frzs_ok fuel l S q2
        refine ⟨a, xs, rfl, .inl ⟨h1, fun t ht => ?_⟩⟩
        obtain ⟨S3, g3⟩ := S2.lay (o := .tup xs) ht
        exact Po.ok p (g2.trans g3) S3 (.tup (SqT.of upd_same) (Rp.ups g3.g _ (h3 _ h2)))
  · exact p.elim
/-- list(x) -/
def fList : List D → DS → ER D := fun ds s => match ds with
  | [d] => match seqOf s d with
    | some l => fLst l s
    | none => .no
  | _ => .no
theorem d_list : DCall X c (fun xs H Q => ∃ p ys, xs = [.ref p] ∧ (SqL X.K H p ys ∨ SqT X.K H p ys) ∧ ∀ l, H l = none → Q (.ref l) (upd H l (.lst ys))) fList := fun G φ s σ H xs ds Q S r p => by
  unfold fList at p
  split at p
  · rename_i d
    obtain ⟨v, rfl, r1⟩ := paired1 r
    cases q : seqOf s d with
    | none => rw [q] at p; exact p.elim
    | some l =>
      rw [q] at p
      obtain ⟨a, xs, rfl, h1, h2⟩ := seqOf_ok S r1 q
      exact ⟨a, xs, rfl, h1, (lst_new S h2 p).2⟩
  · exact p.elim

def tyNm : PD → Option String
  | .non => some "NoneType"
  | .bl _ => some "bool"
  | .int _ => some "int"
  | .str _ => some "str"
  | .tup _ => some "tuple"
  | .lst _ => some "list"
  | .obj _ _ => none
def tyOfD (s : DS) : D → Option String
  | .p d => tyNm d
  | .ref n => match s.cells[n]? with
    | some (.lst _) => some "list"
    | some (.froz (.lst _)) => some "list"
    | _ => none
def fIsi (T : String) : D → DS → ER D := fun d s => match tyOfD s d with
  | some t => match kitB t T with
    | some b => .ok (.p (.bl b)) s
    | none => .no
  | none => .no
theorem tyOfD_ok {K : PySem.W.Frag} {G : Hp} {φ : List Addr} {s : DS} {σ : St} {H : Hp} (S : Sim K c G φ s σ H) {v : V} {d : D} {t : String} (r : RD K G φ v d) (e : tyOfD s d = some t) : TyX K H v (.type t) := by
  have lst : ∀ {a : Addr} {xs : List V}, SqL K H a xs → TyX K H (.ref a) (.type "list") := fun h => by
    rcases h with (h | ⟨o, h⟩) | ⟨o, its, n, h1, h2, _⟩
    · exact .base (.lst h)
    · exact .base (.frz h)
    · exact .kList h1 h2
  have tup : ∀ {a : Addr} {xs : List V}, SqT K H a xs → TyX K H (.ref a) (.type "tuple") := fun h => by
    rcases h with (h | ⟨o, h⟩) | ⟨o, its, n, h1, h2, _⟩
    · exact .base (.tup h)
    · exact .fTuple h
    · exact .kTuple h1 h2
  cases d with
  | p d =>
    have r' : Rp K G v d := r
    cases r' with
    | non => cases Option.some.inj e; exact .base .non
    | bl b => cases Option.some.inj e; exact .base (.bl b)
    | int i => cases Option.some.inj e; exact .base (.int i)
    | str x => cases Option.some.inj e; exact .base (.str x)
    | tup q p => cases Option.some.inj e; exact tup (Same.seqT S.gh q)
    | lst q p => cases Option.some.inj e; exact lst (S.gh.seq q)
  | ref n =>
    obtain ⟨a, h1, rfl⟩ := r
    unfold tyOfD at e
    dsimp only at e
    cases q : s.cells[n]? with
    | none => rw [q] at e; cases e
    | some x =>
      rw [q] at e
      have ok := S.cell n a x h1 q
      cases x with
      | lst l =>
        cases Option.some.inj e
        obtain ⟨_, vs, hH, _⟩ := ok
        exact lst (SqL.of hH)
      | froz d =>
        cases d with
        | lst l =>
          cases Option.some.inj e
          have ok' : Rp K G (.ref a) (.lst l) := ok
          cases ok' with
          | lst q p => exact lst (S.gh.seq q)
        | _ => cases e
theorem de_isi {T : String} {y : Str} {p' : Pos} {a : Expr} {m : DS → ER D} (ha : DE X c a m) (hg : Gl X "isinstance" := by rfl) (hm : X.mg "isinstance" = none := by assumption) (hgT : Gl X y := by rfl) (hmT : X.mg y = none := by assumption) (hvT : bootBuiltins y = some (.type T) := by decide +kernel)
    (he1 : starEach [.Name y p'] X.env = [(false, eval (.Name y p') X.env)] := by rfl) (hnT : y ≠ "__name__" := by decide) (hdT : (y == ("__debug__" : Str)) = false := by decide)
    (he : starEach [a, .Name y p'] X.env = (false, eval a X.env) :: starEach [.Name y p'] X.env := by rfl) (hpl : (backTo pos (starEach [.Name y p'] X.env)).any (·.1) = false := by rfl) :
    DE X c (.Call (.Name "isinstance" p) [a, .Name y p'] [] pos) (mb m (fIsi T)) := by
  refine pe_imp (pe_callB call_isi hg hm (by decide +kernel) (pa_cons ha (pa_cons (pe_bltn hgT hmT hvT (v := .ty T) rfl hnT hdT) pa_nil he1) he) (by decide) (by decide) he hpl) fun σ H Q h => ?_
  obtain ⟨G, φ, s, S, p⟩ := h
  refine (rd.bind (rel := RD X.K) S p).mono fun v H1 ⟨G1, φ1, s1, d, g1, S1, r1, p1⟩ => ?_
  show rIsi X.K [v, .ty T] H1 Q
  unfold fIsi at p1
  cases q : tyOfD s1 d with
  | none => rw [q] at p1; exact p1.elim
  | some t =>
    rw [q] at p1
    dsimp only at p1
    cases q2 : kitB t T with
    | none => rw [q2] at p1; exact p1.elim
    | some b =>
      rw [q2] at p1
      exact ⟨v, .ty T, .type t, .type T, b, rfl, .ty T, tyOfD_ok S1 r1 q, kit_ty q2, Po.ok p1 Gr.refl S1 (.bl b)⟩
end

section
variable {X : Cx} {c : DC} {o e : Expr} {es : List Expr} {m : DS → ER D} {n : DS → ER (List D)} {name : Str} {apos cpos : Pos} {T idn : String} {r : V → List V → Hp → VK → Prop} {f : D → List D → DS → ER D}
def isL (s : DS) (d : D) : Bool := (listOf s d).isSome
/-- a list's method with arguments -/
def mBM (f : D → List D → DS → ER D) (m : DS → ER D) (n : DS → ER (List D)) : DS → ER D := mb m fun d s => if isL s d then (mb n fun ds => f d ds) s else .no
def mBM0 (f : D → List D → DS → ER D) (m : DS → ER D) : DS → ER D := mb m fun d s => if isL s d then f d [] s else .no
theorem tyV_list {K : PySem.W.Frag} {G : Hp} {φ : List Addr} {s : DS} {σ : St} {H : Hp} (S : Sim K c G φ s σ H) {v : V} {d : D} (r : RD K G φ v d) (h : isL s d = true) : tyV K "list" v H := by
  unfold isL at h
  obtain ⟨l, e⟩ := Option.isSome_iff_exists.mp h
  obtain ⟨a, xs, rfl, h1, _⟩ := listOf_ok S r e
  exact .inl ⟨rfl, xs, h1⟩
theorem de_bm (pa : _root_.PySem.PlainAttrs "list") (slot : _root_.PySem.Slot "list" name idn) (hty : typeOf (.builtin idn) = pure (.type "method_descriptor")) (hm : MtR X idn r) (hf : DMt X c r f) (ho : DE X c o m) (ha : DA X c (e :: es) n)
    (hbase : attributeBase o name X.env (eval o X.env) = eval o X.env := by rfl)
    (hfew : ((backTo cpos (starEach (e :: es) X.env)).all (fun x => !x.1) && (backToKw cpos (keywordEach [] X.env)).all (fun x => x.1.isSome)
      && decide ((e :: es).length + ([] : List Keyword).length + (if ([] : List Keyword).isEmpty then 0 else 1) < 30)) = true := by rfl)
    (hline : (apos.endLine == cpos.line) = true := by rfl) (hs : starEach (e :: es) X.env = (false, eval e X.env) :: starEach es X.env := by rfl) (hplain : (backTo cpos (starEach es X.env)).any (·.1) = false := by rfl) :
    DE X c (.Call (.Attribute o name apos) (e :: es) [] cpos) (mBM f m n) := pe_imp (pe_bm pa slot hty hm ho ha hbase hfew hline hs hplain) fun σ H Q h => by
  obtain ⟨G, φ, s, S, p⟩ := h
  refine (rd.bind (rel := RD X.K) S p).mono fun v H1 ⟨G1, φ1, s1, d, g1, S1, r1, p1⟩ => ?_
  split at p1
  · rename_i hl
    refine ⟨tyV_list S1 r1 hl, (rd.bind (rel := RDs X.K) S1 p1).mono fun vs H2 ⟨G2, φ2, s2, ds, g2, S2, r2, p2⟩ => ?_⟩
    exact hf G2 φ2 s2 σ H2 v vs d ds Q S2 (r1.up g2) r2 p2
  · exact p1.elim
theorem de_bm0 (pa : _root_.PySem.PlainAttrs "list") (slot : _root_.PySem.Slot "list" name idn) (hty : typeOf (.builtin idn) = pure (.type "method_descriptor")) (hm : MtR X idn r) (hf : DMt X c r f) (ho : DE X c o m)
    (hbase : attributeBase o name X.env (eval o X.env) = eval o X.env := by rfl) (hline : (apos.endLine == cpos.line) = true := by rfl) :
    DE X c (.Call (.Attribute o name apos) [] [] cpos) (mBM0 f m) := pe_imp (pe_bm0 pa slot hty hm ho hbase hline) fun σ H Q h => by
  obtain ⟨G, φ, s, S, p⟩ := h
  refine (rd.bind (rel := RD X.K) S p).mono fun v H1 ⟨G1, φ1, s1, d, g1, S1, r1, p1⟩ => ?_
  split at p1
  · rename_i hl
    exact ⟨tyV_list S1 r1 hl, hf G1 φ1 s1 σ H1 v [] d [] Q S1 r1 .nil p1⟩
  · exact p1.elim
/-- xs.append(e) -/
def fAppend : D → List D → DS → ER D := fun d ds s => match d, ds with
  | .ref k, [e] => match s.cells[k]? with
    | some (.lst l) => if l.length < line then .ok (.p .non) { s with cells := s.cells.set k (.lst (l ++ [e])) } else .no
    | _ => .no
  | _, _ => .no
theorem d_append : DMt X c rAppend fAppend := fun G φ s σ H x xs d ds Q S rx rs p => by
  unfold fAppend at p
  split at p
  · rename_i k e
    split at p
    · rename_i l hc
      split at p
      · rename_i hl
        obtain ⟨a, h1, rfl⟩ := rx
        obtain ⟨v, rfl, r1⟩ := paired1 rs
        obtain ⟨_, vs, hH, r⟩ := S.cell k a _ h1 hc
        refine ⟨a, vs, v, rfl, rfl, hH, by rw [line_eq, paired_length r]; exact hl, ?_⟩
        exact Po.ok p Gr.refl (S.setCell h1 hc (paired_append r (.cons r1 .nil))) .non
      · exact p.elim
    · exact p.elim
  · exact p.elim
end
end DL
namespace DL
open PySem PySem.Spec L2

inductive SR where
  | nx (s : DS)
  | rt (d : D) (s : DS)
  | bk (s : DS)
  | ct (s : DS)
  | exc (c : Nat) (fs : Fields) (s : DS)
  | no
def PoS (K : PySem.W.Frag) (c : DC) (o : SR) (G : Hp) (φ : List Addr) (D : Ends) : Prop :=
  match o with
  | .nx s' => ∀ σ' G' φ' H', Gr G φ G' φ' → Sim K c G' φ' s' σ' H' → D.nx σ' H'
  | .rt d s' => ∀ v σ' G' φ' H', Gr G φ G' φ' → Sim K c G' φ' s' σ' H' → RD K G' φ' v d → D.rt v H'
  | .bk s' => ∀ σ' G' φ' H', Gr G φ G' φ' → Sim K c G' φ' s' σ' H' → D.bk σ' H'
  | .ct s' => ∀ σ' G' φ' H', Gr G φ G' φ' → Sim K c G' φ' s' σ' H' → D.ct σ' H'
  | .exc e fs s' => ∀ cls dd σ' G' φ' H', Gr G φ G' φ' → Sim K c G' φ' s' σ' H' → XRp K c.cx G' cls dd e fs → c.W cls dd σ' H'
  | .no => False
def rdS (K : PySem.W.Frag) (c : DC) (m : DS → SR) : TS := fun D σ H => ∃ G φ s, Sim K c G φ s σ H ∧ PoS K c (m s) G φ D
abbrev DSt (X : Cx) (c : DC) (st : Stmt) (m : DS → SR) : Prop := PS X st (rdS X.K c m)
abbrev DSs (X : Cx) (c : DC) (sts : List Stmt) (m : DS → SR) : Prop := PSs X sts (rdS X.K c m)

/-- an expression's outcome, then a statement's -/
def eb {α : Type} (m : DS → ER α) (k : α → DS → SR) : DS → SR := fun s => match m s with
  | .ok a s' => k a s'
  | .exc e fs s' => .exc e fs s'
  | .no => .no
section
variable {K : PySem.W.Frag} {c : DC} {α β : Type} {rel : Hp → List Addr → β → α → Prop} {G G1 : Hp} {φ φ1 : List Addr} {σ : St} {H : Hp} {s : DS} {E : Ends}
theorem PoS.up {o : SR} (a : Gr G φ G1 φ1) (h : PoS K c o G φ E) : PoS K c o G1 φ1 E := by
  cases o with
  | nx s' => exact fun σ' G' φ' H' g => h σ' G' φ' H' (a.trans g)
  | rt d s' => exact fun v σ' G' φ' H' g => h v σ' G' φ' H' (a.trans g)
  | bk s' => exact fun σ' G' φ' H' g => h σ' G' φ' H' (a.trans g)
  | ct s' => exact fun σ' G' φ' H' g => h σ' G' φ' H' (a.trans g)
  | exc e fs s' => exact fun cls dd σ' G' φ' H' g => h cls dd σ' G' φ' H' (a.trans g)
  | no => exact h
theorem eb_bind {m : DS → ER α} {k : α → DS → SR} (S : Sim K c G φ s σ H) (h : PoS K c (eb m k s) G φ E) :
    rd K c rel m σ H (fun v H1 => ∃ G1 φ1 s1 d, Gr G φ G1 φ1 ∧ Sim K c G1 φ1 s1 σ H1 ∧ rel G1 φ1 v d ∧ PoS K c (k d s1) G1 φ1 E) := by
  refine ⟨G, φ, s, S, ?_⟩
  unfold eb at h
  cases e : m s with
  | ok d s' =>
    rw [e] at h
    intro v G' φ' H' g sm' r
    exact ⟨G', φ', s', d, g, sm', r, h.up g⟩
  | exc x fs s' => rw [e] at h; exact fun cls dd G' φ' H' => h cls dd σ G' φ' H'
  | no => rw [e] at h; exact h
end

section
variable {X : Cx} {c : DC} {pos : Pos} {st : Stmt} {rest a b : List Stmt} {m n : DS → SR} {e : Expr} {me : DS → ER D} {t : DS → ER Bool}
def sNext : DS → SR := fun s => .nx s
def sSeq (m n : DS → SR) : DS → SR := fun s => match m s with
  | .nx s' => n s'
  | o => o
theorem ds_nil : DSs X c [] sNext := pss_imp pss_nil fun D σ H h => by
  obtain ⟨G, φ, s, S, p⟩ := h
  exact p σ G φ H Gr.refl S
theorem ds_one (h : DSt X c st m) : DSs X c [st] m := pss_one h
theorem ds_cons (h1 : DSt X c st m) (h2 : DSs X c rest n) : DSs X c (st :: rest) (sSeq m n) := pss_imp (pss_cons h1 h2) fun D σ H h => by
  obtain ⟨G, φ, s, S, p⟩ := h
  refine ⟨G, φ, s, S, ?_⟩
  unfold sSeq at p
  cases q : m s with
  | nx s' => rw [q] at p; exact fun σ' G' φ' H' g S' => ⟨G', φ', s', S', PoS.up g p⟩
  | rt d s' => rw [q] at p; exact p
  | bk s' => rw [q] at p; exact p
  | ct s' => rw [q] at p; exact p
  | exc x fs s' => rw [q] at p; exact p
  | no => rw [q] at p; exact p
theorem ds_pass : DSt X c (.Pass pos) sNext := ps_imp ps_pass fun D σ H h => by
  obtain ⟨G, φ, s, S, p⟩ := h
  exact p σ G φ H Gr.refl S
def sBreak : DS → SR := fun s => .bk s
def sCont : DS → SR := fun s => .ct s
theorem ds_break : DSt X c (.Break pos) sBreak := ps_imp ps_break fun D σ H h => by
  obtain ⟨G, φ, s, S, p⟩ := h
  exact p σ G φ H Gr.refl S
theorem ds_cont : DSt X c (.Continue pos) sCont := ps_imp ps_continue fun D σ H h => by
  obtain ⟨G, φ, s, S, p⟩ := h
  exact p σ G φ H Gr.refl S
theorem ds_doc {x j pos'} : DSt X c (.Expr (.Constant (.str x) j pos) pos') sNext := ps_imp ps_doc fun D σ H h => by
  obtain ⟨G, φ, s, S, p⟩ := h
  exact p σ G φ H Gr.refl S
def sExpr (m : DS → ER D) : DS → SR := eb m fun _ s => .nx s
theorem ds_expr (he : DE X c e me) (hs : swapsWith e none pos.line X.env = pure false := by rfl) : DSt X c (.Expr e pos) (sExpr me) := ps_imp (ps_expr he hs) fun D σ H h => by
  obtain ⟨G, φ, s, S, p⟩ := h
  refine (eb_bind (rel := RD X.K) S p).mono fun v H1 ⟨G1, φ1, s1, d, g1, S1, r1, p1⟩ => ?_
  exact p1 σ G1 φ1 H1 Gr.refl S1
def sRet (m : DS → ER D) : DS → SR := eb m fun d s => .rt d s
theorem ds_ret (he : DE X c e me) : DSt X c (.Return (some e) pos) (sRet me) := ps_imp (ps_ret he) fun D σ H h => by
  obtain ⟨G, φ, s, S, p⟩ := h
  refine (eb_bind (rel := RD X.K) S p).mono fun v H1 ⟨G1, φ1, s1, d, g1, S1, r1, p1⟩ => ?_
  exact p1 v σ G1 φ1 H1 Gr.refl S1 r1
def sRetN : DS → SR := fun s => .rt (.p .non) s
theorem ds_retN : DSt X c (.Return none pos) sRetN := ps_imp ps_retN fun D σ H h => by
  obtain ⟨G, φ, s, S, p⟩ := h
  exact p .non σ G φ H Gr.refl S .non
def sIf (t : DS → ER Bool) (m n : DS → SR) : DS → SR := eb t fun k s => match k with
  | true => m s
  | false => n s
theorem ds_if (ht : DT X c e t) (ha : DSs X c a m) (hb : DSs X c b n) : DSt X c (.If e a b pos) (sIf t m n) := ps_imp (ps_if ht ha hb) fun D σ H h => by
  obtain ⟨G, φ, s, S, p⟩ := h
  refine (eb_bind (rel := relB) S p).mono fun v H1 ⟨G1, φ1, s1, k, g1, S1, r1, p1⟩ => ?_
  have r1' : v = k := r1
  subst r1'
  cases v with
  | true => exact iteT ⟨G1, φ1, s1, S1, p1⟩
  | false => exact iteF ⟨G1, φ1, s1, S1, p1⟩
/-- no exception is handled -/
abbrev Calm (c : DC) : Prop := c.hx = none
theorem Calm.ne {c : DC} (h : Calm c) (i : Nat) : ∀ j a cls dd, c.hx = some (j, a, cls, dd) → j ≠ i := fun j a cls dd e => by rw [h] at e; cases e
def sSet (i : Nat) (m : DS → ER D) : DS → SR := eb m fun d s => .nx { s with env := s.env.set i (some d) }
theorem ds_set {i : Nat} {x : Str} {pos' : Pos} (hc : Calm c) (hN : X.N.Nodup) (he : DE X c e me) (hi : X.N[i]? = some x := by rfl) (hx : Loc X.env.scope x := by first | exact Or.inl rfl | exact Or.inr rfl) (hs : swapsWith e (some (.Name x pos')) pos.line X.env = pure false := by rfl)
    (hf : X.fn x = true ∨ X.env.scope.names.lookup x = some .local := by first | exact .inl rfl | exact .inr rfl | assumption) : DSt X c (.Assign [.Name x pos'] e pos) (sSet i me) := ps_imp (ps_set hN hi hx he hs hf) fun D σ H h => by
  obtain ⟨G, φ, s, S, p⟩ := h
  refine (eb_bind (rel := RD X.K) S p).mono fun v H1 ⟨G1, φ1, s1, d, g1, S1, r1, p1⟩ => ?_
  exact p1 _ G1 φ1 H1 Gr.refl (S1.store r1 (hc.ne i))

/-- the target's function on the state keeps its reading -/
def DTg (X : Cx) (c : DC) (g : TG) (f : D → DS → Option DS) : Prop := ∀ (G : Hp) (φ : List Addr) (s : DS) (σ : St) (H : Hp) (v : V) (d : D) (Q : St → Hp → Prop), Sim X.K c G φ s σ H → RD X.K G φ v d →
  (match f d s with
    | some s' => ∀ σ' G' φ' H', Gr G φ G' φ' → Sim X.K c G' φ' s' σ' H' → Q σ' H'
    | none => False) → g v σ H Q
def DTgs (X : Cx) (c : DC) (g : TGs) (f : List PD → DS → Option DS) : Prop := ∀ (G : Hp) (φ : List Addr) (s : DS) (σ : St) (H : Hp) (vs : List V) (ds : List PD) (Q : St → Hp → Prop), Sim X.K c G φ s σ H → Paired (Rp X.K G) vs ds →
  (match f ds s with
    | some s' => ∀ σ' G' φ' H', Gr G φ G' φ' → Sim X.K c G' φ' s' σ' H' → Q σ' H'
    | none => False) → g vs σ H Q
def tgName (i : Nat) : D → DS → Option DS := fun d s => some { s with env := s.env.set i (some d) }
theorem dtg_name {i : Nat} (hc : Calm c) : DTg X c (gName i) (tgName i) := fun G φ s σ H v d Q S r h => h _ G φ H Gr.refl (S.store r (hc.ne i))
def tgNil : List PD → DS → Option DS := fun ds s => match ds with
  | [] => some s
  | _ => none
def tgCons (f : D → DS → Option DS) (g : List PD → DS → Option DS) : List PD → DS → Option DS := fun ds s => match ds with
  | d :: r => match f (.p d) s with
    | some s' => g r s'
    | none => none
  | [] => none
theorem dtg_nil : DTgs X c gNil tgNil := fun G φ s σ H vs ds Q S r h => by
  cases r with
  | nil => exact ⟨rfl, h σ G φ H Gr.refl S⟩
  | cons _ _ => exact h.elim
theorem dtg_cons {g : TG} {gs : TGs} {f : D → DS → Option DS} {fs : List PD → DS → Option DS} (h1 : DTg X c g f) (h2 : DTgs X c gs fs) : DTgs X c (gCons g gs) (tgCons f fs) := fun G φ s σ H vs ds Q S r h => by
  cases r with
  | nil => exact h.elim
  | @cons v d vs ds r t =>
    refine ⟨v, vs, rfl, h1 G φ s σ H v (.p d) _ S r ?_⟩
    unfold tgCons at h
    dsimp only at h
    cases q : f (.p d) s with
    | none => rw [q] at h; exact h.elim
    | some s' =>
      rw [q] at h
      dsimp only
      intro σ' G' φ' H' g' S'
      refine h2 G' φ' s' σ' H' vs ds Q S' (Rp.ups g'.g ds t) ?_
      dsimp only at h
      cases q2 : fs ds s' with
      | none => rw [q2] at h; exact h.elim
      | some s'' => rw [q2] at h; exact fun σ2 G2 φ2 H2 g2 => h σ2 G2 φ2 H2 (g'.trans g2)
def tgTup (n : Nat) (g : List PD → DS → Option DS) : D → DS → Option DS := fun d s => match d with
  | .p (.tup l) => if l.length = n then g l s else none
  | _ => none
theorem dtg_tup {n : Nat} {gs : TGs} {f : List PD → DS → Option DS} (h : DTgs X c gs f) : DTg X c (gTup X.K n gs) (tgTup n f) := fun G φ s σ H v d Q S r hq => by
  cases d with
  | ref _ => exact hq.elim
  | p d =>
    cases d with
    | tup l =>
      unfold tgTup at hq
      dsimp only at hq
      by_cases hl : l.length = n
      · rw [if_pos hl] at hq
        have r' : Rp X.K G v (.tup l) := r
        cases r' with
        | @tup a xs _ q p => exact ⟨a, xs, rfl, Same.seqT S.gh q, by rw [paired_length p]; exact hl, h G φ s σ H xs l Q S p hq⟩
      · rw [if_neg hl] at hq
        exact hq.elim
    | _ => exact hq.elim
/-- target = e -/
def sAsg (m : DS → ER D) (f : D → DS → Option DS) : DS → SR := eb m fun d s => match f d s with
  | some s' => .nx s'
  | none => .no
theorem ds_asg {tg : Expr} {g : TG} {f : D → DS → Option DS} (he : DE X c e me) (hg : PG X tg g) (hf : DTg X c g f) (hs : swapsWithSole [tg] e pos.line X.env = pure false := by rfl) (hw : swappedStores [tg] e X.env = pure none := by rfl)
    (h1 : (assignEach [tg] X.env).map (·.2) = [assign tg X.env] := by rfl) : DSt X c (.Assign [tg] e pos) (sAsg me f) := ps_imp (ps_asg he hg hs hw h1) fun D σ H h => by
  obtain ⟨G, φ, s, S, p⟩ := h
  refine (eb_bind (rel := RD X.K) S p).mono fun v H1 ⟨G1, φ1, s1, d, g1, S1, r1, p1⟩ => ?_
  refine hf G1 φ1 s1 σ H1 v d _ S1 r1 ?_
  cases q : f d s1 with
  | none => rw [q] at p1; exact p1.elim
  | some s' => rw [q] at p1; exact p1
/-- a, b = e1, e2 -/
def sPar (i j : Nat) (n : DS → ER (List D)) : DS → SR := eb n fun ds s => match ds with
  | [d, e] => .nx { s with env := (s.env.set i (some d)).set j (some e) }
  | _ => .no
theorem ds_par {i j : Nat} {x y : Str} {a b : Expr} {n : DS → ER (List D)} {px py pt : Pos} {kt k2 pt2} (hx0 : Calm c) (hN : X.N.Nodup) (ha : DA X c [a, b] n) (hc : X.calm = true := by rfl) (hi : X.N[i]? = some x := by rfl) (hj : X.N[j]? = some y := by rfl) (hij : i ≠ j := by decide)
    (hx : X.env.scope.names.lookup x = some .local := by rfl) (hy : X.env.scope.names.lookup y = some .local := by rfl)
    (hw : swappedStores [.Tuple [.Name x px, .Name y py] kt pt] (.Tuple [a, b] k2 pt2) X.env = pure (some [x, y]) := by rfl)
    (hs : swapsWithSole [.Tuple [.Name x px, .Name y py] kt pt] (.Tuple [a, b] k2 pt2) pos.line X.env = pure false := by rfl) :
    DSt X c (.Assign [.Tuple [.Name x px, .Name y py] kt pt] (.Tuple [a, b] k2 pt2) pos) (sPar i j n) := ps_imp (ps_par hc hN hi hj hij hx hy ha hw hs) fun D σ H h => by
  obtain ⟨G, φ, s, S, p⟩ := h
  refine (eb_bind (rel := RDs X.K) S p).mono fun v H1 ⟨G1, φ1, s1, ds, g1, S1, r1, p1⟩ => ?_
  split at p1
  · rename_i d e
    obtain ⟨v1, v2, rfl, h1, h2⟩ := paired2 r1
    exact ⟨v1, v2, rfl, p1 _ G1 φ1 H1 Gr.refl ((S1.store h1 (hx0.ne i)).store h2 (hx0.ne j))⟩
  · exact p1.elim
/-- xs[i] = e (a list) -/
def fSetItem (d o i : D) (s : DS) : Option DS := match o, i with
  | .ref n, .p (.int k) => match s.cells[n]? with
    | some (.lst l) => match ixN l.length k with
      | some j => some { s with cells := s.cells.set n (.lst (l.set j d)) }
      | none => none
    | _ => none
  | _, _ => none
def sSetItem (me mo mi : DS → ER D) : DS → SR := eb me fun d => eb mo fun o => eb mi fun i s => match fSetItem d o i s with
  | some s' => .nx s'
  | none => .no
theorem paired_set {α β : Type} {R : α → β → Prop} {x : α} {y : β} (r : R x y) : ∀ {xs : List α} {ys : List β} (i : Nat), Paired R xs ys → Paired R (xs.set i x) (ys.set i y)
  | _, _, _, .nil => .nil
  | _, _, 0, .cons _ t => .cons r t
  | _, _, i + 1, .cons q t => .cons q (paired_set r i t)
theorem ds_setItem {o i : Expr} {mo mi : DS → ER D} {ps : Pos} (he : DE X c e me) (ho : DE X c o mo) (hi : DE X c i mi)
    (ha : ∀ v, assign (.Subscript o i ps) X.env v = (do
      let ov ← holding [v] (eval o X.env)
      let iv ← holding [v, ov] (eval i X.env)
      standAt ps
      holding [v, ov, iv] (setItem ov iv v)
      release [v, ov, iv] []) := by intro _; rfl) (hs : swapsWithSole [.Subscript o i ps] e pos.line X.env = pure false := by rfl) (hw : swappedStores [.Subscript o i ps] e X.env = pure none := by rfl)
    (h1 : (assignEach [.Subscript o i ps] X.env).map (·.2) = [assign (.Subscript o i ps) X.env] := by rfl) : DSt X c (.Assign [.Subscript o i ps] e pos) (sSetItem me mo mi) := ps_imp (ps_asg he (pg_sub ho hi set_list ha) hs hw h1) fun D σ H h => by
  obtain ⟨G, φ, s, S, p⟩ := h
  refine (eb_bind (rel := RD X.K) S p).mono fun v H1 ⟨G1, φ1, s1, d, g1, S1, r1, p1⟩ => ?_
  refine (eb_bind (rel := RD X.K) S1 p1).mono fun ov H2 ⟨G2, φ2, s2, o, g2, S2, r2, p2⟩ => ?_
  refine (eb_bind (rel := RD X.K) S2 p2).mono fun iv H3 ⟨G3, φ3, s3, k, g3, S3, r3, p3⟩ => ?_
  cases o with
  | p _ => exact p3.elim
  | ref n =>
    cases k with
    | ref _ => exact p3.elim
    | p kd =>
      cases kd with
      | int k =>
        unfold fSetItem at p3
        dsimp only at p3
        cases hc : s3.cells[n]? with
        | none => rw [hc] at p3; exact p3.elim
        | some x =>
          rw [hc] at p3
          cases x with
          | froz _ => exact p3.elim
          | lst l =>
            dsimp only at p3
            cases hj : ixN l.length k with
            | none => rw [hj] at p3; exact p3.elim
            | some j =>
              rw [hj] at p3
              obtain ⟨a, ha1, rfl⟩ := r2.up g3
              cases rp_int r3
              obtain ⟨_, vs, hH, r⟩ := S3.cell n a _ ha1 hc
              refine ⟨a, vs, k, j, rfl, rfl, hH, by rw [paired_length r]; exact hj, ?_⟩
              exact p3 σ G3 φ3 _ Gr.refl (S3.setCell ha1 hc (paired_set ((r1.up g2).up g3) j r))
      | _ => exact p3.elim
end

structure ItOk (K : PySem.W.Frag) (c : DC) (J : It) (G : Hp) (φ : List Addr) (items : List D) : Prop where
  go : ∀ i G1 φ1 s σ H1, i < items.length → Gr G φ G1 φ1 → Sim K c G1 φ1 s σ H1 → J.go i H1
  yld : ∀ i d G1 φ1 s σ H1 x H2, items[i]? = some d → Gr G φ G1 φ1 → Sim K c G1 φ1 s σ H1 → J.yld i H1 x H2 → ∃ G2, Gr G1 φ1 G2 φ1 ∧ Sim K c G2 φ1 s σ H2 ∧ RD K G2 φ1 x d
  stop : ∀ G1 φ1 s σ H1, Gr G φ G1 φ1 → Sim K c G1 φ1 s σ H1 → J.stop items.length H1
def PoI (K : PySem.W.Frag) (c : DC) (o : ER (List D)) (G : Hp) (φ : List Addr) (σ : St) (R : It → Hp → Prop) : Prop :=
  match o with
  | .ok items s' => ∀ J G' φ' H', Gr G φ G' φ' → Sim K c G' φ' s' σ H' → ItOk K c J G' φ' items → R J H'
  | .exc e fs s' => ∀ cls dd G' φ' H', Gr G φ G' φ' → Sim K c G' φ' s' σ H' → XRp K c.cx G' cls dd e fs → c.W cls dd σ H'
  | .no => False
def rdI (K : PySem.W.Frag) (c : DC) (m : DS → ER (List D)) : TI := fun σ H R => ∃ G φ s, Sim K c G φ s σ H ∧ PoI K c (m s) G φ σ R
abbrev DI (X : Cx) (c : DC) (tg iter : Expr) (m : DS → ER (List D)) : Prop := PI X tg iter (rdI X.K c m)
theorem pi_imp {X : Cx} {tg iter : Expr} {t t' : TI} (h : PI X tg iter t) (i : ∀ σ H Q, t' σ H Q → t σ H Q) : PI X tg iter t' := ⟨fun pins s σ H Q I q => h.run pins s σ H Q I (i _ _ _ q)⟩
section
variable {X : Cx} {c : DC} {pos p : Pos} {tg e : Expr} {me : DS → ER D} {n : DS → ER (List D)} {a b : Expr}
theorem itemsI {K : PySem.W.Frag} {G : Hp} {φ : List Addr} {c : DC} {a : Addr} {xs : List V} {ds : List PD} (q : SqL K G a xs) (p : Paired (Rp K G) xs ds) : ItOk K c (Itl K a) G φ (ds.map .p) := by
  have len : xs.length = ds.length := paired_length p
  refine ⟨fun i G1 φ1 s σ H1 hi g S => ?_, fun i d G1 φ1 s σ H1 x H2 hd g S y => ?_, fun G1 φ1 s σ H1 g S => ?_⟩
  · rw [List.length_map] at hi
    have hx : i < xs.length := by omega
    exact ⟨xs, xs[i], S.gh.seq (g.g.seq q), List.getElem?_eq_getElem hx⟩
  · obtain ⟨e, y⟩ := y
    subst e
    have hx := y xs (S.gh.seq (g.g.seq q))
    obtain ⟨u, hu, r⟩ := paired_get (paired_map (R := RD K G φ) (fun _ _ z => z) p) hd
    rw [hx] at hu
    cases hu
    exact ⟨G1, Gr.refl, S, r.up g⟩
  · exact ⟨xs, S.gh.seq (g.g.seq q), by rw [List.length_map]; omega⟩
theorem itemsT {K : PySem.W.Frag} {G : Hp} {φ : List Addr} {c : DC} {a : Addr} {xs : List V} {ds : List PD} (q : SqT K G a xs) (inj : ∀ G1 φ1 s σ H1, Gr G φ G1 φ1 → Sim K c G1 φ1 s σ H1 → True) (p : Paired (Rp K G) xs ds) : ItOk K c (Itt K a) G φ (ds.map .p) := by
  have len : xs.length = ds.length := paired_length p
  refine ⟨fun i G1 φ1 s σ H1 hi g S => ?_, fun i d G1 φ1 s σ H1 x H2 hd g S y => ?_, fun G1 φ1 s σ H1 g S => ?_⟩
  · rw [List.length_map] at hi
    have hx : i < xs.length := by omega
    exact ⟨xs, xs[i], Same.seqT S.gh (Same.seqT g.g q), List.getElem?_eq_getElem hx⟩
  · obtain ⟨e, y⟩ := y
    subst e
    have hx := y xs (Same.seqT S.gh (Same.seqT g.g q))
    obtain ⟨u, hu, r⟩ := paired_get (paired_map (R := RD K G φ) (fun _ _ z => z) p) hd
    rw [hx] at hu
    cases hu
    exact ⟨G1, Gr.refl, S, r.up g⟩
  · exact ⟨xs, Same.seqT S.gh (Same.seqT g.g q), by rw [List.length_map]; omega⟩
/-- for x in a list (it is frozen ahead of the loop) -/
def mItl (m : DS → ER D) : DS → ER (List D) := mb m fun d s => match frz fuel s d with
  | some (.lst l, s') => .ok (l.map .p) s'
  | _ => .no
theorem PoI.of {K : PySem.W.Frag} {G : Hp} {φ : List Addr} {σ : St} {H : Hp} {s : DS} {m : DS → ER D} {k : D → DS → ER (List D)} {R : It → Hp → Prop} (S : Sim K c G φ s σ H) (h : PoI K c (mb m k s) G φ σ R) :
    rd K c (RD K) m σ H (fun v H1 => ∃ G1 φ1 s1 d, Gr G φ G1 φ1 ∧ Sim K c G1 φ1 s1 σ H1 ∧ RD K G1 φ1 v d ∧ PoI K c (k d s1) G1 φ1 σ R) := by
  refine ⟨G, φ, s, S, ?_⟩
  unfold mb at h
  cases e : m s with
  | ok d s' =>
    rw [e] at h
    intro v G' φ' H' g sm' r
    refine ⟨G', φ', s', d, g, sm', r, ?_⟩
    dsimp only at h
    cases e2 : k d s' with
    | ok items s2 => rw [e2] at h; exact fun J G2 φ2 H2 g2 => h J G2 φ2 H2 (g.trans g2)
    | exc x fs s2 => rw [e2] at h; exact fun cls dd G2 φ2 H2 g2 => h cls dd G2 φ2 H2 (g.trans g2)
    | no => rw [e2] at h; exact h
  | exc x fs s' => rw [e] at h; exact h
  | no => rw [e] at h; exact h
theorem di_list (he : DE X c e me) : DI X c tg e (mItl me) := pi_imp (pi_list he) fun σ H R h => by
  obtain ⟨G, φ, s, S, p⟩ := h
  refine (PoI.of S p).mono fun v H1 ⟨G1, φ1, s1, d, g1, S1, r1, p1⟩ => ?_
  cases q : frz fuel s1 d with
  | none => rw [q] at p1; exact p1.elim
  | some z =>
    obtain ⟨x, s2⟩ := z
    rw [q] at p1
    obtain ⟨G2, g2, S2, h2⟩ := frz_ok fuel d S1 q
    have r2 := h2 v r1
    cases x with
    | lst l =>
      cases r2 with
      | @lst a xs _ hq hp => exact ⟨a, rfl, ⟨xs, S2.gh.seq hq⟩, p1 _ G2 φ1 H1 g2 S2 (itemsI hq hp)⟩
    | _ => exact p1.elim
def mItt (m : DS → ER D) : DS → ER (List D) := mb m fun d s => match d with
  | .p (.tup l) => .ok (l.map .p) s
  | _ => .no
theorem di_tup (he : DE X c e me) : DI X c tg e (mItt me) := pi_imp (pi_tup he) fun σ H R h => by
  obtain ⟨G, φ, s, S, p⟩ := h
  refine (PoI.of S p).mono fun v H1 ⟨G1, φ1, s1, d, g1, S1, r1, p1⟩ => ?_
  split at p1
  · rename_i l
    have r' : Rp X.K G1 v (.tup l) := r1
    cases r' with
    | @tup a xs _ hq hp => exact ⟨a, rfl, ⟨xs, Same.seqT S1.gh hq⟩, p1 _ G1 φ1 H1 Gr.refl S1 (itemsT hq (fun _ _ _ _ _ _ _ => trivial) hp)⟩
  · exact p1.elim
/-- range(n), range(a, b) -/
def rng (lo : Int) (k : Nat) : List D := (List.range k).map fun i => .p (.int (lo + (i : Nat)))
theorem rng_len {lo : Int} {k : Nat} : (rng lo k).length = k := by unfold rng; rw [List.length_map, List.length_range]
theorem itemsR {K : PySem.W.Frag} {G : Hp} {φ : List Addr} {c : DC} {lo : Int} {k : Nat} : ItOk K c (Itr lo k) G φ (rng lo k) := by
  refine ⟨fun i G1 φ1 s σ H1 hi g S => by rw [rng_len] at hi; exact hi, fun i d G1 φ1 s σ H1 x H2 hd g S y => ?_, fun G1 φ1 s σ H1 g S => by rw [rng_len]; exact Nat.le_refl _⟩
  obtain ⟨e1, e2⟩ := y
  subst e1 e2
  unfold rng at hd
  rw [List.getElem?_map] at hd
  have hi : i < k := by
    refine Nat.lt_of_not_le fun hle => ?_
    rw [List.getElem?_eq_none (by rw [List.length_range]; exact hle)] at hd
    cases hd
  rw [List.getElem?_range hi] at hd
  cases hd
  exact ⟨G1, Gr.refl, S, .int _⟩
abbrev lim62 (i : Int) : Bool := decide (-(2 ^ 62) ≤ i) && decide (i < 2 ^ 62)
def fRng1 : List D → DS → ER (List D) := fun ds s => match ds with
  | [.p (.int j)] => if lim62 j then .ok (rng 0 j.toNat) s else .no
  | _ => .no
def fRng2 : List D → DS → ER (List D) := fun ds s => match ds with
  | [.p (.int i), .p (.int j)] => if lim62 i && lim62 j then .ok (rng i (j - i).toNat) s else .no
  | _ => .no
theorem PoI.ofA {K : PySem.W.Frag} {G : Hp} {φ : List Addr} {σ : St} {H : Hp} {s : DS} {m : DS → ER (List D)} {k : List D → DS → ER (List D)} {R : It → Hp → Prop} (S : Sim K c G φ s σ H) (h : PoI K c (mb m k s) G φ σ R) :
    rd K c (RDs K) m σ H (fun v H1 => ∃ G1 φ1 s1 d, Gr G φ G1 φ1 ∧ Sim K c G1 φ1 s1 σ H1 ∧ RDs K G1 φ1 v d ∧ PoI K c (k d s1) G1 φ1 σ R) := by
  refine ⟨G, φ, s, S, ?_⟩
  unfold mb at h
  cases e : m s with
  | ok d s' =>
    rw [e] at h
    intro v G' φ' H' g sm' r
    refine ⟨G', φ', s', d, g, sm', r, ?_⟩
    dsimp only at h
    cases e2 : k d s' with
    | ok items s2 => rw [e2] at h; exact fun J G2 φ2 H2 g2 => h J G2 φ2 H2 (g.trans g2)
    | exc x fs s2 => rw [e2] at h; exact fun cls dd G2 φ2 H2 g2 => h cls dd G2 φ2 H2 (g.trans g2)
    | no => rw [e2] at h; exact h
  | exc x fs s' => rw [e] at h; exact h
  | no => rw [e] at h; exact h
theorem di_range1 (ha : DA X c [a] n) (hg : Gl X "range" := by rfl) (hm : X.mg "range" = none := by assumption) (hs : starEach [a] X.env = [(false, eval a X.env)] := by rfl) : DI X c tg (.Call (.Name "range" p) [a] [] pos) (mb n fRng1) := pi_imp (pi_range1 hg hm ha hs) fun σ H R h => by
  obtain ⟨G, φ, s, S, p⟩ := h
  refine (PoI.ofA S p).mono fun vs H1 ⟨G1, φ1, s1, ds, g1, S1, r1, p1⟩ => ?_
  unfold fRng1 at p1
  split at p1
  · rename_i j
    obtain ⟨v, rfl, r⟩ := paired1 r1
    cases rp_int r
    split at p1
    · rename_i hl
      simp only [lim62, Bool.and_eq_true, decide_eq_true_eq] at hl
      exact ⟨j, rfl, hl.1, hl.2, p1 _ G1 φ1 H1 Gr.refl S1 itemsR⟩
    · exact p1.elim
  · exact p1.elim
theorem di_range2 (ha : DA X c [a, b] n) (hg : Gl X "range" := by rfl) (hm : X.mg "range" = none := by assumption) (hs : starEach [a, b] X.env = [(false, eval a X.env), (false, eval b X.env)] := by rfl) (hs2 : starEach [b] X.env = [(false, eval b X.env)] := by rfl) : DI X c tg (.Call (.Name "range" p) [a, b] [] pos) (mb n fRng2) := pi_imp (pi_range2 hg hm ha hs hs2) fun σ H R h => by
  obtain ⟨G, φ, s, S, p⟩ := h
  refine (PoI.ofA S p).mono fun vs H1 ⟨G1, φ1, s1, ds, g1, S1, r1, p1⟩ => ?_
  unfold fRng2 at p1
  split at p1
  · rename_i i j
    obtain ⟨v, u, rfl, ra, rb⟩ := paired2 r1
    cases rp_int ra
    cases rp_int rb
    split at p1
    · rename_i hl
      simp only [lim62, Bool.and_eq_true, decide_eq_true_eq] at hl
      exact ⟨i, j, rfl, ⟨hl.1.1, hl.1.2, hl.2.1, hl.2.2⟩, p1 _ G1 φ1 H1 Gr.refl S1 itemsR⟩
    · exact p1.elim
  · exact p1.elim

def loop (f : D → DS → Option DS) (body : DS → SR) : List D → DS → SR
  | [], s => .nx s
  | d :: r, s => match f d s with
    | none => .no
    | some s1 => match body s1 with
      | .nx s2 => loop f body r s2
      | .ct s2 => loop f body r s2
      | .bk s2 => .nx s2
      | o => o
def sFor (mi : DS → ER (List D)) (f : D → DS → Option DS) (body : DS → SR) : DS → SR := eb mi fun items => loop f body items
theorem ds_for {body : List Stmt} {mi : DS → ER (List D)} {g : TG} {f : D → DS → Option DS} {mbd : DS → SR} (hp : PassesOwn (model X.prog X.w) X.A X.env X.xe) (hi : DI X c tg e mi) (hg : PG X tg g) (hf : DTg X c g f) (hb : DSs X c body mbd) (hc : X.calm = true := by rfl)
    (hs : ∀ x, foldedSetIterable e X.env x = pure x := by intro _; rfl) : DSt X c (.For tg e body [] pos) (sFor mi f mbd) := ps_imp (ps_for hp hc hi hg hb hs) fun D σ H h => by
  obtain ⟨G, φ, s, S, p⟩ := h
  refine ⟨G, φ, s, S, ?_⟩
  unfold sFor eb at p
  cases q : mi s with
  | exc x fs s' => rw [q] at p; exact fun cls dd G' φ' H' g' S' xr => p cls dd σ G' φ' H' g' S' xr
  | no => rw [q] at p; exact p
  | ok items s0 =>
    rw [q] at p
    intro J G0 φ0 H0 g0 S0 hJ
    dsimp only at p
    refine ⟨fun i m σ H => m = items.length - i ∧ i ≤ items.length ∧ ∃ G1 φ1 s1, Gr G0 φ0 G1 φ1 ∧ Sim X.K c G1 φ1 s1 σ H ∧ PoS X.K c (loop f mbd (items.drop i) s1) G1 φ1 D, ⟨items.length, by omega, by omega, G0, φ0, s0, Gr.refl, S0, PoS.up g0 p⟩, ?_⟩
    rintro i m σ1 H1 ⟨rfl, hi, G1, φ1, s1, g1, S1, p1⟩
    by_cases hlt : i < items.length
    · have hd : items.drop i = items[i] :: items.drop (i + 1) := List.drop_eq_getElem_cons hlt
      rw [hd] at p1
      unfold loop at p1
      refine .inr ⟨hJ.go i G1 φ1 s1 σ1 H1 hlt g1 S1, fun σ' H' => i + 1 ≤ items.length ∧ ∃ G2 φ2 s2, Gr G0 φ0 G2 φ2 ∧ Sim X.K c G2 φ2 s2 σ' H' ∧ PoS X.K c (loop f mbd (items.drop (i + 1)) s2) G2 φ2 D, fun σ' H' ⟨h1, h2⟩ => ⟨items.length - (i + 1), by omega, rfl, h1, h2⟩, fun x H2 y => ?_⟩
      obtain ⟨G2, g2, S2, r2⟩ := hJ.yld i items[i] G1 φ1 s1 σ1 H1 x H2 (List.getElem?_eq_getElem hlt) g1 S1 y
      refine hf G2 φ1 s1 σ1 H2 x items[i] _ S2 r2 ?_
      cases q1 : f items[i] s1 with
      | none => rw [q1] at p1; exact p1.elim
      | some s2 =>
        rw [q1] at p1
        dsimp only at p1 ⊢
        intro σ3 G3 φ3 H3 g3 S3
        refine ⟨G3, φ3, s2, S3, ?_⟩
        have g13 : Gr G1 φ1 G3 φ3 := g2.trans g3
        cases q2 : mbd s2 with
        | nx s3 =>
          rw [q2] at p1
          exact fun σ4 G4 φ4 H4 g4 S4 => ⟨hlt, G4, φ4, s3, (g1.trans g13).trans g4, S4, PoS.up (g13.trans g4) p1⟩
        | ct s3 =>
          rw [q2] at p1
          exact fun σ4 G4 φ4 H4 g4 S4 => ⟨hlt, G4, φ4, s3, (g1.trans g13).trans g4, S4, PoS.up (g13.trans g4) p1⟩
        | bk s3 =>
          rw [q2] at p1
          exact fun σ4 G4 φ4 H4 g4 S4 => p1 σ4 G4 φ4 H4 (g13.trans g4) S4
        | rt d s3 =>
          rw [q2] at p1
          exact fun v σ4 G4 φ4 H4 g4 S4 r4 => p1 v σ4 G4 φ4 H4 (g13.trans g4) S4 r4
        | exc x fs s3 =>
          rw [q2] at p1
          exact fun cls dd σ4 G4 φ4 H4 g4 S4 xr => p1 cls dd σ4 G4 φ4 H4 (g13.trans g4) S4 xr
        | no => rw [q2] at p1; exact p1
    · have e : i = items.length := by omega
      subst e
      rw [List.drop_length] at p1
      exact .inl ⟨hJ.stop G1 φ1 s1 σ1 H1 g1 S1, p1 σ1 G1 φ1 H1 Gr.refl S1⟩
end
end DL
namespace DL
open PySem PySem.Spec L2

/-- a block's context: nothing may be raised -/
def DC.blk (c : DC) : DC := { c with hx := none, W := fun _ _ _ _ => False }
section
variable {K : PySem.W.Frag} {c : DC} {G : Hp} {φ : List Addr} {σ : St} {H : Hp} {s : DS}
theorem Sim.toBlk (S : Sim K c G φ s σ H) (hc : Calm c) : Sim K c.blk G φ s σ H := ⟨S.gh, S.rh, S.fr, S.len, S.env, S.clen, fun n a x h1 h2 => by
  have h := S.cell n a x h1 h2
  cases x with
  | lst l => exact h
  | froz d => exact h, S.cR, S.cH, S.nd, fun e fs q => by
  obtain ⟨i, a, cls, d, h1, _⟩ := S.ex e fs q
  rw [hc] at h1
  cases h1⟩
theorem Sim.noEx (S : Sim K c.blk G φ s σ H) : s.ex = none := by
  cases q : s.ex with
  | none => rfl
  | some z =>
    obtain ⟨e, fs⟩ := z
    obtain ⟨i, a, cls, d, h1, _⟩ := S.ex e fs q
    cases h1
theorem Sim.ofBlk (S : Sim K c.blk G φ s σ H) : Sim K c G φ s σ H := ⟨S.gh, S.rh, S.fr, S.len, S.env, S.clen, fun n a x h1 h2 => by
  have h := S.cell n a x h1 h2
  cases x with
  | lst l => exact h
  | froz d => exact h, S.cR, S.cH, S.nd, fun e fs q => by rw [S.noEx] at q; cases q⟩
theorem Sim.reenv (S : Sim K c.blk G φ s σ H) {env0 : List (Option D)} {σ0 : St} (hl : env0.length = σ0.length) (h : ∀ (i : Nat) (d : D), env0[i]? = some (some d) → ∃ v, σ0[i]? = some (some v) ∧ RD K G φ v d) :
    Sim K c.blk G φ { s with env := env0 } σ0 H := ⟨S.gh, S.rh, S.fr, hl, h, S.clen, S.cell, S.cR, S.cH, S.nd, fun e fs q => by
  have q' : s.ex = some (e, fs) := q
  rw [S.noEx] at q'
  cases q'⟩
end
theorem wipe_get (σ : St) (j : Nat) : ∀ vs : List Nat, (wipe σ vs)[j]? = if j ∈ vs ∧ j < σ.length then some none else σ[j]?
  | [] => by rw [if_neg (by simp)]; rfl
  | v :: vs => by
    show ((wipe σ vs).set v none)[j]? = _
    by_cases hv : v = j
    · subst hv
      by_cases hl : v < σ.length
      · rw [List.getElem?_set_self (by rw [wipe_length]; exact hl), if_pos ⟨List.mem_cons_self, hl⟩]
      · rw [List.getElem?_eq_none (by rw [List.length_set, wipe_length]; omega), if_neg (fun h => hl h.2), List.getElem?_eq_none (by omega)]
    · rw [List.getElem?_set_ne hv, wipe_get σ j vs]
      by_cases hm : j ∈ vs ∧ j < σ.length
      · rw [if_pos hm, if_pos ⟨List.mem_cons_of_mem _ hm.1, hm.2⟩]
      · rw [if_neg hm, if_neg]
        rintro ⟨h1, h2⟩
        rcases List.mem_cons.mp h1 with e | h1
        · exact hv e.symm
        · exact hm ⟨h1, h2⟩
theorem wipe_same {σ σ' : St} {vs : List Nat} (hl : σ'.length = σ.length) (h : ∀ j, j ∉ vs → σ'[j]? = (wipe σ vs)[j]?) : wipe σ' vs = wipe σ vs := by
  refine List.ext_getElem? fun j => ?_
  rw [wipe_get σ' j vs]
  by_cases hm : j ∈ vs
  · rw [wipe_get σ j vs]
    by_cases hj : j < σ.length
    · rw [if_pos ⟨hm, by rw [hl]; exact hj⟩, if_pos ⟨hm, hj⟩]
    · rw [if_neg (fun h => hj (hl ▸ h.2)), if_neg (fun h => hj h.2), List.getElem?_eq_none (by omega), List.getElem?_eq_none (by omega)]
  · rw [if_neg (fun h => hm h.1), h j hm]
def wipeE (env : List (Option D)) : List Nat → List (Option D)
  | [] => env
  | v :: vs => (wipeE env vs).set v none
theorem wipeE_length (env : List (Option D)) : ∀ vs : List Nat, (wipeE env vs).length = env.length
  | [] => rfl
  | v :: vs => by unfold wipeE; rw [List.length_set, wipeE_length env vs]
theorem wipeE_get {env : List (Option D)} {j : Nat} {d : D} : ∀ {vs : List Nat}, (wipeE env vs)[j]? = some (some d) → env[j]? = some (some d) ∧ j ∉ vs
  | [], h => ⟨h, by simp⟩
  | v :: vs, h => by
    unfold wipeE at h
    by_cases hv : v = j
    · subst hv
      by_cases hl : v < (wipeE env vs).length
      · rw [List.getElem?_set_self hl] at h; cases h
      · rw [List.getElem?_eq_none (by simpa using hl)] at h; cases h
    · rw [List.getElem?_set_ne hv] at h
      obtain ⟨h1, h2⟩ := wipeE_get h
      exact ⟨h1, by simp only [List.mem_cons, not_or]; exact ⟨fun e => hv e.symm, h2⟩⟩

def DTv (K : PySem.W.Frag) (c : DC) (vs : List Nat) (g : TG) (f : D → DS → Option DS) : Prop := ∀ (G : Hp) (φ : List Addr) (s : DS) (σ : St) (H : Hp) (v : V) (d : D) (Q : St → Hp → Prop), Sim K c G φ s σ H → RD K G φ v d →
  (match f d s with
    | some s' => ∀ σ' G' φ' H', Gr G φ G' φ' → Sim K c G' φ' s' σ' H' → σ'.length = σ.length → (∀ j, j ∉ vs → σ'[j]? = σ[j]?) → Q σ' H'
    | none => False) → g v σ H Q
def DTvs (K : PySem.W.Frag) (c : DC) (vs : List Nat) (g : TGs) (f : List PD → DS → Option DS) : Prop := ∀ (G : Hp) (φ : List Addr) (s : DS) (σ : St) (H : Hp) (xs : List V) (ds : List PD) (Q : St → Hp → Prop), Sim K c G φ s σ H → Paired (Rp K G) xs ds →
  (match f ds s with
    | some s' => ∀ σ' G' φ' H', Gr G φ G' φ' → Sim K c G' φ' s' σ' H' → σ'.length = σ.length → (∀ j, j ∉ vs → σ'[j]? = σ[j]?) → Q σ' H'
    | none => False) → g xs σ H Q
section
variable {K : PySem.W.Frag} {c : DC} {vs : List Nat}
theorem dtv_name {i : Nat} (hc : Calm c) (hi : i ∈ vs := by decide) : DTv K c vs (gName i) (tgName i) := fun G φ s σ H v d Q S r h =>
  h _ G φ H Gr.refl (S.store r (hc.ne i)) (by rw [List.length_set]) fun j hj => List.getElem?_set_ne (show i ≠ j from fun e => hj (e ▸ hi))
theorem dtv_nil : DTvs K c vs gNil tgNil := fun G φ s σ H xs ds Q S r h => by
  cases r with
  | nil => exact ⟨rfl, h σ G φ H Gr.refl S rfl fun _ _ => rfl⟩
  | cons _ _ => exact h.elim
theorem dtv_cons {g : TG} {gs : TGs} {f : D → DS → Option DS} {fs : List PD → DS → Option DS} (h1 : DTv K c vs g f) (h2 : DTvs K c vs gs fs) : DTvs K c vs (gCons g gs) (tgCons f fs) := fun G φ s σ H xs ds Q S r h => by
  cases r with
  | nil => exact h.elim
  | @cons v d xs ds r t =>
    refine ⟨v, xs, rfl, h1 G φ s σ H v (.p d) _ S r ?_⟩
    unfold tgCons at h
    dsimp only at h
    cases q : f (.p d) s with
    | none => rw [q] at h; exact h.elim
    | some s' =>
      rw [q] at h
      dsimp only
      intro σ' G' φ' H' g' S' l1 k1
      refine h2 G' φ' s' σ' H' xs ds Q S' (Rp.ups g'.g ds t) ?_
      dsimp only at h
      cases q2 : fs ds s' with
      | none => rw [q2] at h; exact h.elim
      | some s'' => rw [q2] at h; exact fun σ2 G2 φ2 H2 g2 S2 l2 k2 => h σ2 G2 φ2 H2 (g'.trans g2) S2 (l2.trans l1) fun j hj => (k2 j hj).trans (k1 j hj)
theorem dtv_tup {n : Nat} {gs : TGs} {f : List PD → DS → Option DS} (h : DTvs K c vs gs f) : DTv K c vs (gTup K n gs) (tgTup n f) := fun G φ s σ H v d Q S r hq => by
  cases d with
  | ref _ => exact hq.elim
  | p d =>
    cases d with
    | tup l =>
      unfold tgTup at hq
      dsimp only at hq
      by_cases hl : l.length = n
      · rw [if_pos hl] at hq
        have r' : Rp K G v (.tup l) := r
        cases r' with
        | @tup a xs _ q p => exact ⟨a, xs, rfl, Same.seqT S.gh q, by rw [paired_length p]; exact hl, h G φ s σ H xs l Q S p hq⟩
      · rw [if_neg hl] at hq
        exact hq.elim
    | _ => exact hq.elim
end

abbrev DTs (X : Cx) (c : DC) (ifs : List Expr) (t : DS → ER Bool) : Prop := PTs X ifs (rd X.K c relB t)
def mYes : DS → ER Bool := fun s => .ok true s
theorem dts_nil {X : Cx} {c : DC} : DTs X c [] mYes := ⟨fun pins s σ H Q I h => pts_nil.run pins s σ H Q I (by
  obtain ⟨G, φ, s, S, p⟩ := h
  exact Po.ok p Gr.refl S rfl)⟩
theorem dts_one {X : Cx} {c : DC} {e : Expr} {t : DS → ER Bool} (h : DT X c e t) : DTs X c [e] t := pts_one h
def loopC (n : Nat) (env0 : List (Option D)) (f : D → DS → Option DS) (t : DS → ER Bool) (e : DS → ER D) : List D → DS → Option DS
  | [], s => some s
  | d :: r, s => match f d s with
    | none => none
    | some s1 => match t s1 with
      | .ok true s2 => match e s2 with
        | .ok y s3 => match s3.cells[n]? with
          | some (.lst acc) => if acc.length < line then loopC n env0 f t e r { s3 with env := env0, cells := s3.cells.set n (.lst (acc ++ [y])) } else none
          | _ => none
        | _ => none
      | .ok false s2 => loopC n env0 f t e r { s2 with env := env0 }
      | _ => none
def mLc (mi : DS → ER (List D)) (f : D → DS → Option DS) (t : DS → ER Bool) (e : DS → ER D) (vs : List Nat) : DS → ER D := mb mi fun items s =>
  match loopC s.cells.length (wipeE s.env vs) f t e items { s with env := wipeE s.env vs, cells := s.cells ++ [.lst []] } with
  | some s' => .ok (.ref s.cells.length) { s' with env := s.env }
  | none => .no
section
variable {X : Cx} {c : DC} {pos : Pos} {elt tg iter : Expr} {ifs : List Expr} {scope : Scope} {own : List (Str × Nat)} {mi : DS → ER (List D)} {g : TG} {f : D → DS → Option DS} {t : DS → ER Bool} {me : DS → ER D}
theorem lc_rd (hc0 : Calm c) (hf : DTv X.K c.blk (own.map (·.2)) g f) : ∀ σ H Q, rd X.K c (RD X.K) (mLc mi f t me (own.map (·.2))) σ H Q → tLc (rdI X.K c mi) g (rd X.K c.blk relB t) (rd X.K c.blk (RD X.K) me) (own.map (·.2)) σ H Q := fun σ H Q h => by
  obtain ⟨G, φ, s, S, p⟩ := h
  refine ⟨G, φ, s, S, ?_⟩
  unfold mLc mb at p
  cases q : mi s with
  | exc x fs s' => rw [q] at p; exact p
  | no => rw [q] at p; exact p
  | ok items s0 =>
    rw [q] at p
    dsimp only at p
    intro J G0 φ0 H0 g0 S0 hJ A hA
    obtain ⟨S1, g1⟩ := S0.newCell (vs := []) (l := []) hA .nil
    have hn : (φ0 ++ [A])[s0.cells.length]? = some A := by rw [S0.clen]; exact at_last
    -- the wiped state
    have env0 : ∀ {G' : Hp} {φ' : List Addr}, Gr G0 φ0 G' φ' → ∀ (i : Nat) (d : D), (wipeE s0.env (own.map (·.2)))[i]? = some (some d) → ∃ v, (wipe σ (own.map (·.2)))[i]? = some (some v) ∧ RD X.K G' φ' v d := fun g' i d hd => by
      obtain ⟨h1, h2⟩ := wipeE_get hd
      obtain ⟨v, e1, r⟩ := S0.env i d h1
      refine ⟨v, ?_, r.up g'⟩
      rw [wipe_get, if_neg (fun z => h2 z.1)]
      exact e1
    have len0 : (wipeE s0.env (own.map (·.2))).length = (wipe σ (own.map (·.2))).length := by rw [wipeE_length, wipe_length]; exact S0.len
    have S2 := (S1.toBlk hc0).reenv len0 (env0 g1)
    cases ql : loopC s0.cells.length (wipeE s0.env (own.map (·.2))) f t me items { s0 with env := wipeE s0.env (own.map (·.2)), cells := s0.cells ++ [.lst []] } with
    | none => rw [ql] at p; exact p.elim
    | some sE =>
      rw [ql] at p
      dsimp only at p
      refine ⟨fun i m H => m = items.length - i ∧ i ≤ items.length ∧ ∃ G3 φ3 s3, Gr G0 (φ0 ++ [A]) G3 φ3 ∧ Sim X.K c.blk G3 φ3 s3 (wipe σ (own.map (·.2))) H ∧ s3.env = wipeE s0.env (own.map (·.2)) ∧ loopC s0.cells.length (wipeE s0.env (own.map (·.2))) f t me (items.drop i) s3 = some sE,
        ⟨items.length, by omega, by omega, G0, φ0 ++ [A], _, Gr.refl, S2, rfl, ql⟩, ?_⟩
      rintro i m H1 ⟨rfl, hi, G3, φ3, s3, g3, S3, e3, p3⟩
      have gJ : Gr G0 φ0 G3 φ3 := g1.trans g3
      have at3 : φ3[s0.cells.length]? = some A := g3.at hn
      -- the state again with the outer slots
      have S3' : Sim X.K c G3 φ3 { s3 with env := s0.env } σ H1 := (S3.reenv S0.len fun i d hd => by
        obtain ⟨v, e1, r⟩ := S0.env i d hd
        exact ⟨v, e1, r.up gJ⟩).ofBlk
      by_cases hlt : i < items.length
      · have hd : items.drop i = items[i] :: items.drop (i + 1) := List.drop_eq_getElem_cons hlt
        rw [hd] at p3
        unfold loopC at p3
        refine .inr ⟨hJ.go i G3 φ3 _ σ H1 hlt gJ S3', fun H' => i + 1 ≤ items.length ∧ ∃ G4 φ4 s4, Gr G0 (φ0 ++ [A]) G4 φ4 ∧ Sim X.K c.blk G4 φ4 s4 (wipe σ (own.map (·.2))) H' ∧ s4.env = wipeE s0.env (own.map (·.2)) ∧ loopC s0.cells.length (wipeE s0.env (own.map (·.2))) f t me (items.drop (i + 1)) s4 = some sE,
          fun H' ⟨h1, h2⟩ => ⟨items.length - (i + 1), by omega, rfl, h1, h2⟩, fun x H2 y => ?_⟩
        obtain ⟨G4, g4, S4', r4⟩ := hJ.yld i items[i] G3 φ3 _ σ H1 x H2 (List.getElem?_eq_getElem hlt) gJ S3' y
        have S4 : Sim X.K c.blk G4 φ3 s3 (wipe σ (own.map (·.2))) H2 := by
          have z := (S4'.toBlk hc0).reenv (σ0 := wipe σ (own.map (·.2))) (env0 := s3.env) (by rw [e3]; exact len0) (fun i d hd => by rw [e3] at hd; exact env0 (gJ.trans g4) i d hd)
          exact z
        refine hf G4 φ3 s3 (wipe σ (own.map (·.2))) H2 x items[i] _ S4 r4 ?_
        cases q1 : f items[i] s3 with
        | none => rw [q1] at p3; cases p3
        | some s5 =>
          rw [q1] at p3
          dsimp only at p3 ⊢
          intro σ5 G5 φ5 H5 g5 S5 l5 k5
          refine ⟨wipe_same (by rw [l5, wipe_length]) k5, G5, φ5, s5, S5, ?_⟩
          have g35 : Gr G3 φ3 G5 φ5 := g4.trans g5
          cases q2 : t s5 with
          | exc x fs s6 => rw [q2] at p3; cases p3
          | no => rw [q2] at p3; cases p3
          | ok b s6 =>
            rw [q2] at p3
            intro b' G6 φ6 H6 g6 S6 rb
            have rb' : b' = b := rb
            subst rb'
            have g06 : Gr G0 (φ0 ++ [A]) G6 φ6 := (g3.trans g35).trans g6
            cases b' with
            | false =>
              refine iteF ⟨hlt, G6, φ6, { s6 with env := wipeE s0.env (own.map (·.2)) }, g06, S6.reenv len0 (env0 (g1.trans g06)), rfl, p3⟩
            | true =>
              refine iteT ⟨G6, φ6, s6, S6, ?_⟩
              dsimp only at p3
              cases q3 : me s6 with
              | exc x fs s7 => rw [q3] at p3; cases p3
              | no => rw [q3] at p3; cases p3
              | ok y s7 =>
                rw [q3] at p3
                intro yv G7 φ7 H7 g7 S7 r7
                have g07 : Gr G0 (φ0 ++ [A]) G7 φ7 := g06.trans g7
                have at7 : φ7[s0.cells.length]? = some A := g07.at hn
                dsimp only at p3
                cases q4 : s7.cells[s0.cells.length]? with
                | none => rw [q4] at p3; cases p3
                | some ce =>
                  rw [q4] at p3
                  cases ce with
                  | froz d => cases p3
                  | lst acc =>
                    dsimp only at p3
                    by_cases hl : acc.length < line
                    · rw [if_pos hl] at p3
                      obtain ⟨_, avs, hH, ra⟩ := S7.cell _ A _ at7 q4
                      refine ⟨avs, hH, by rw [line_eq, paired_length ra]; exact hl, hlt, G7, φ7, _, g07, (S7.setCell at7 q4 (paired_append ra (.cons r7 .nil))).reenv len0 (env0 (g1.trans g07)), rfl, p3⟩
                    · rw [if_neg hl] at p3
                      cases p3
      · have e : i = items.length := by omega
        subst e
        rw [List.drop_length] at p3
        have e4 : s3 = sE := Option.some.inj p3
        subst e4
        exact .inl ⟨hJ.stop G3 φ3 _ σ H1 gJ S3', p (.ref A) G3 φ3 H1 (g0.trans gJ) S3' ⟨A, at3, rfl⟩⟩
theorem de_lc {vs : List Nat} (hc0 : Calm c) (hN : X.N.Nodup) (hi : DI X c tg iter mi) (ok : BlkOk X.N X.env.scope scope own)
    (hg : ∀ (s : Shared) (H : Hp) (C : Addr) (cl : List (Str × Addr)) (fp : List Addr), PG (X.blk s H scope (compEnvC scope cl C X.env) fp) tg g) (hf : DTv X.K c.blk vs g f)
    (ht : ∀ (s : Shared) (H : Hp) (C : Addr) (cl : List (Str × Addr)) (fp : List Addr), DTs (X.blk s H scope (compEnvC scope cl C X.env) fp) c.blk ifs t)
    (he : ∀ (s : Shared) (H : Hp) (C : Addr) (cl : List (Str × Addr)) (fp : List Addr), DE (X.blk s H scope (compEnvC scope cl C X.env) fp) c.blk elt me) (hv : own.map (·.2) = vs := by rfl) (hc : X.calm = true := by rfl) (hs : ∀ x, foldedSetIterable iter X.env x = pure x := by intro _; rfl) :
    DE X c (.ListComp elt [⟨tg, iter, ifs, 0⟩] scope pos) (mLc mi f t me vs) := by
  subst hv
  exact pe_imp (pe_lc hc hN hi ok hg ht he hs) (lc_rd hc0 hf)
/-- y = [..] -/
theorem ds_setLc {i : Nat} {y : Str} {py spos : Pos} {vs : List Nat} (hc0 : Calm c) (hN : X.N.Nodup) (hi : DI X c tg iter mi) (ok : BlkOk X.N X.env.scope scope own)
    (hg : ∀ (s : Shared) (H : Hp) (C : Addr) (cl : List (Str × Addr)) (fp : List Addr), PG (X.blk s H scope (compEnvC scope cl C X.env) fp) tg g) (hf : DTv X.K c.blk vs g f)
    (ht : ∀ (s : Shared) (H : Hp) (C : Addr) (cl : List (Str × Addr)) (fp : List Addr), DTs (X.blk s H scope (compEnvC scope cl C X.env) fp) c.blk ifs t)
    (he : ∀ (s : Shared) (H : Hp) (C : Addr) (cl : List (Str × Addr)) (fp : List Addr), DE (X.blk s H scope (compEnvC scope cl C X.env) fp) c.blk elt me) (hsw : swapsWith (.ListComp elt [⟨tg, iter, ifs, 0⟩] scope pos) (some (.Name y py)) spos.line X.env = pure true)
    (hv : own.map (·.2) = vs := by rfl) (hc : X.calm = true := by rfl) (hy : X.N[i]? = some y := by rfl) (hyl : X.env.scope.names.lookup y = some .local := by rfl) (hs : ∀ x, foldedSetIterable iter X.env x = pure x := by intro _; rfl) :
    DSt X c (.Assign [.Name y py] (.ListComp elt [⟨tg, iter, ifs, 0⟩] scope pos) spos) (sSet i (mLc mi f t me vs)) := by
  subst hv
  have base := ps_setLc (tt := rd X.K c.blk relB t) (te := rd X.K c.blk (RD X.K) me) hc hN hy hyl hsw hi ok hg ht he hs
  refine ps_imp base fun D σ H h => ?_
  refine lc_rd (t := t) (me := me) hc0 hf σ H _ ?_
  obtain ⟨G, φ, s, S, p⟩ := h
  refine (eb_bind (rel := RD X.K) S p).mono fun v H1 ⟨G1, φ1, s1, d, g1, S1, r1, p1⟩ => ?_
  exact p1 _ G1 φ1 H1 Gr.refl (S1.store r1 (hc0.ne i))
end
end DL
namespace DL
open PySem PySem.Spec L2

/-- how arguments come: plain data, or a list that the def may change (true) -/
inductive RArgs (K : PySem.W.Frag) (G H : Hp) : List Bool → List V → List PD → List (List PD) → List Addr → Prop
  | nil : RArgs K G H [] [] [] [] []
  | p {v : V} {d : PD} {ms : List Bool} {vs : List V} {ds : List PD} {cs : List (List PD)} {as : List Addr} : Rp K G v d → RArgs K G H ms vs ds cs as → RArgs K G H (false :: ms) (v :: vs) (d :: ds) cs as
  | m {a : Addr} {xs : List V} {l : List PD} {ms : List Bool} {vs : List V} {ds : List PD} {cs : List (List PD)} {as : List Addr} : H a = some (.lst xs) → Paired (Rp K G) xs l → RArgs K G H ms vs ds cs as → RArgs K G H (true :: ms) (.ref a :: vs) ds (l :: cs) (a :: as)
theorem RArgs.length {K : PySem.W.Frag} {G H : Hp} {ms : List Bool} {vs : List V} {ds : List PD} {cs : List (List PD)} {as : List Addr} (h : RArgs K G H ms vs ds cs as) : vs.length = ms.length := by
  induction h with
  | nil => rfl
  | p _ _ ih => simp [ih]
  | m _ _ _ ih => simp [ih]
theorem RArgs.clen {K : PySem.W.Frag} {G H : Hp} {ms : List Bool} {vs : List V} {ds : List PD} {cs : List (List PD)} {as : List Addr} (h : RArgs K G H ms vs ds cs as) : cs.length = as.length := by
  induction h with
  | nil => rfl
  | p _ _ ih => exact ih
  | m _ _ _ ih => simp [ih]

/-- what a call leaves -/
structure Aft (K : PySem.W.Frag) (G H : Hp) (as : List Addr) (cs' : List (List PD)) (G' H' : Hp) : Prop where
  g : Same G G'
  gh : Same G' H'
  keep : ∀ b o, b ∉ as → H b = some o → H' b = some o
  fresh : ∀ b, G' b ≠ none → H b ≠ none → G b ≠ none
  cells : Paired (fun a l => G' a = none ∧ ∃ xs, H' a = some (.lst xs) ∧ Paired (Rp K G') xs l) as cs'
/-- a def's outcome: plain data, a new list that the caller may change, an exception -/
inductive FR where
  | ok (d : PD) (cs : List (List PD))
  | new (l : List PD) (cs : List (List PD))
  | exc (c : Nat) (fs : Fields) (cs : List (List PD))
  | no
abbrev Fn := List PD → List (List PD) → FR
def PoF (K : PySem.W.Frag) (cx : Nat → Addr) (G H : Hp) (as : List Addr) (o : FR) (Q : VK) (E : XK) : Prop :=
  match o with
  | .ok d cs' => ∀ v G' H', Aft K G H as cs' G' H' → Rp K G' v d → Q v H'
  | .new l cs' => ∀ a xs G' H', Aft K G H as cs' G' H' → H' a = some (.lst xs) → Paired (Rp K G') xs l → G' a = none → H a = none → Q (.ref a) H'
  | .exc e fs cs' => ∀ cls dd G' H', Aft K G H as cs' G' H' → XRp K cx G' cls dd e fs → E cls dd H'
  | .no => False
/-- the promise of a def -/
def spD (K : PySem.W.Frag) (cx : Nat → Addr) (ms : List Bool) (f : Fn) : Sp := fun vs H Q E => ∃ G ds cs as, Same G H ∧ RArgs K G H ms vs ds cs as ∧ as.Nodup ∧ (∀ a ∈ as, G a = none) ∧ PoF K cx G H as (f ds cs) Q E

def pds : List D → Option (List PD)
  | [] => some []
  | .p d :: ds => (pds ds).map fun xs => d :: xs
  | .ref _ :: _ => none
def cont (s : DS) : List Nat → Option (List (List PD))
  | [] => some []
  | n :: ns => match s.cells[n]? with
    | some (.lst l) => (pds l).bind fun x => (cont s ns).map fun xs => x :: xs
    | _ => none
def passArgs : List Bool → List D → DS → Option (List PD × List Nat × DS)
  | [], [], s => some ([], [], s)
  | false :: ms, d :: ds, s => match frz fuel s d with
    | some (x, s') => match passArgs ms ds s' with
      | some (xs, ns, s'') => some (x :: xs, ns, s'')
      | none => none
    | none => none
  | true :: ms, .ref n :: ds, s => match passArgs ms ds s with
    | some (xs, ns, s') => some (xs, n :: ns, s')
    | none => none
  | _, _, _ => none
def setCells : List Nat → List (List PD) → List Cell → List Cell
  | n :: ns, c :: cs, l => setCells ns cs (l.set n (.lst (c.map .p)))
  | _, _, l => l
def nodupB : List Nat → Bool
  | [] => true
  | n :: ns => !(ns.contains n) && nodupB ns
def callR (s : DS) (ns : List Nat) : FR → ER D
  | .ok d cs' => .ok (.p d) { s with cells := setCells ns cs' s.cells }
  | .new l cs' => .ok (.ref s.cells.length) { s with cells := setCells ns cs' s.cells ++ [.lst (l.map .p)] }
  | .exc e fs cs' => .exc e fs { s with cells := setCells ns cs' s.cells }
  | .no => .no
def callF (ms : List Bool) (f : Fn) : List D → DS → ER D := fun ds s => match passArgs ms ds s with
  | some (xs, ns, s') => if nodupB ns then match cont s' ns with
      | some cs => callR s' ns (f xs cs)
      | none => .no
    else .no
  | none => .no
inductive RPre (K : PySem.W.Frag) (G : Hp) (φ : List Addr) : List Bool → List V → List PD → List Nat → Prop
  | nil : RPre K G φ [] [] [] []
  | p {v : V} {d : PD} {ms : List Bool} {vs : List V} {ds : List PD} {ns : List Nat} : Rp K G v d → RPre K G φ ms vs ds ns → RPre K G φ (false :: ms) (v :: vs) (d :: ds) ns
  | m {a : Addr} {n : Nat} {ms : List Bool} {vs : List V} {ds : List PD} {ns : List Nat} : φ[n]? = some a → RPre K G φ ms vs ds ns → RPre K G φ (true :: ms) (.ref a :: vs) ds (n :: ns)
theorem pds_ok {K : PySem.W.Frag} {G : Hp} {φ : List Addr} : ∀ {l : List D} {xs : List V} {ds : List PD}, RDs K G φ xs l → pds l = some ds → Paired (Rp K G) xs ds
  | [], _, _, .nil, e => by cases Option.some.inj e; exact .nil
  | .p d :: l, _, _, .cons r t, e => by
    obtain ⟨ds, e1, e2⟩ := Option.map_eq_some_iff.mp e
    subst e2
    exact .cons r (pds_ok t e1)
  | .ref _ :: l, _, _, .cons r t, e => by cases e
section
variable {K : PySem.W.Frag} {c : DC} {φ : List Addr} {σ : St} {H : Hp}
theorem passArgs_ok : ∀ (ms : List Bool) (ds : List D) {vs : List V} {G : Hp} {s s' : DS} {xs : List PD} {ns : List Nat}, Sim K c G φ s σ H → RDs K G φ vs ds → passArgs ms ds s = some (xs, ns, s') → ∃ G', Gr G φ G' φ ∧ Sim K c G' φ s' σ H ∧ RPre K G' φ ms vs xs ns := by
  intro ms
  induction ms with
  | nil =>
    intro ds vs G s s' xs ns S r e
    cases ds with
    | nil =>
      cases r
      cases (Option.some.inj e)
      exact ⟨G, Gr.refl, S, .nil⟩
    | cons d ds => cases e
  | cons b ms ih =>
    intro ds vs G s s' xs ns S r e
    have upR : ∀ {G1 G2 : Hp} {ms : List Bool} {vs : List V} {xs : List PD} {ns : List Nat}, Gr G1 φ G2 φ → RPre K G1 φ ms vs xs ns → RPre K G2 φ ms vs xs ns := fun {G1 G2 ms vs xs ns} g h => by
      induction h with
      | nil => exact .nil
      | p r _ ih => exact .p (Rp.up g.g _ r) ih
      | m e _ ih => exact .m e ih
    cases r with
    | nil => cases b <;> cases e
    | @cons v d vs ds r t =>
      cases b with
      | false =>
        unfold passArgs at e
        cases q : frz fuel s d with
        | none => rw [q] at e; cases e
        | some z =>
          obtain ⟨x, s1⟩ := z
          rw [q] at e
          dsimp only at e
          obtain ⟨G1, g1, S1, h1⟩ := frz_ok fuel d S q
          cases q2 : passArgs ms ds s1 with
          | none => rw [q2] at e; cases e
          | some z2 =>
            obtain ⟨ys, ns2, s2⟩ := z2
            rw [q2] at e
            cases (Option.some.inj e)
            obtain ⟨G2, g2, S2, h2⟩ := ih ds S1 (RDs.up g1 t) q2
            exact ⟨G2, g1.trans g2, S2, .p (Rp.up g2.g x (h1 _ r)) h2⟩
      | true =>
        cases d with
        | p _ => cases e
        | ref n =>
          unfold passArgs at e
          cases q2 : passArgs ms ds s with
          | none => rw [q2] at e; cases e
          | some z2 =>
            obtain ⟨ys, ns2, s2⟩ := z2
            rw [q2] at e
            cases (Option.some.inj e)
            obtain ⟨G2, g2, S2, h2⟩ := ih ds S t q2
            obtain ⟨a, ha, rfl⟩ := r
            exact ⟨G2, g2, S2, .m ha h2⟩
theorem pre_args {G : Hp} {s : DS} (S : Sim K c G φ s σ H) : ∀ {ms : List Bool} {vs : List V} {ds : List PD} {ns : List Nat} {cs : List (List PD)}, RPre K G φ ms vs ds ns → cont s ns = some cs →
    ∃ as, RArgs K G H ms vs ds cs as ∧ Paired (fun a n => φ[n]? = some a) as ns ∧ (∀ a ∈ as, G a = none) := by
  intro ms vs ds ns cs h
  induction h generalizing cs with
  | nil =>
    intro e
    cases (Option.some.inj e)
    exact ⟨[], .nil, .nil, fun a h => by cases h⟩
  | p r _ ih =>
    intro e
    obtain ⟨as, h1, h2, h3⟩ := ih e
    exact ⟨as, .p r h1, h2, h3⟩
  | @m a n ms vs ds ns ha _ ih =>
    intro e
    unfold cont at e
    cases q : s.cells[n]? with
    | none => rw [q] at e; cases e
    | some x =>
      rw [q] at e
      cases x with
      | froz _ => cases e
      | lst l =>
        dsimp only at e
        obtain ⟨x, e1, e2⟩ := Option.bind_eq_some_iff.mp e
        obtain ⟨xs, e3, e4⟩ := Option.map_eq_some_iff.mp e2
        subst e4
        obtain ⟨as, h1, h2, h3⟩ := ih e3
        obtain ⟨hG, vs', hH, r⟩ := S.cell n a _ ha q
        refine ⟨a :: as, .m hH (pds_ok r e1) h1, .cons ha h2, fun b hb => ?_⟩
        rcases List.mem_cons.mp hb with e | hb
        · rw [e]; exact hG
        · exact h3 b hb
theorem nodupB_ok : ∀ {ns : List Nat}, nodupB ns = true → ns.Nodup
  | [], _ => .nil
  | n :: ns, h => by
    unfold nodupB at h
    rw [Bool.and_eq_true] at h
    refine List.nodup_cons.mpr ⟨fun hm => ?_, nodupB_ok h.2⟩
    have : ns.contains n = true := List.contains_iff_mem.mpr hm
    rw [this] at h
    exact absurd h.1 (by decide)
theorem nodup_at {φ : List Addr} (hφ : φ.Nodup) {n m : Nat} {a : Addr} (h1 : φ[n]? = some a) (h2 : φ[m]? = some a) : n = m := by
  obtain ⟨l1, e1⟩ := List.getElem?_eq_some_iff.mp h1
  obtain ⟨l2, e2⟩ := List.getElem?_eq_some_iff.mp h2
  exact (List.getElem_inj hφ).mp (e1.trans e2.symm)
theorem as_nodup (hφ : φ.Nodup) : ∀ {as : List Addr} {ns : List Nat}, Paired (fun a n => φ[n]? = some a) as ns → ns.Nodup → as.Nodup
  | _, _, .nil, _ => .nil
  | _, _, @Paired.cons _ _ _ a n as ns r t, h => by
    obtain ⟨h1, h2⟩ := List.nodup_cons.mp h
    refine List.nodup_cons.mpr ⟨fun hm => ?_, as_nodup hφ t h2⟩
    have : ∀ {as : List Addr} {ns : List Nat}, Paired (fun a n => φ[n]? = some a) as ns → a ∈ as → n ∈ ns := by
      intro as ns p
      induction p with
      | nil => intro h; cases h
      | cons r' _ ih =>
        intro h
        rcases List.mem_cons.mp h with e | h
        · subst e
          rw [nodup_at hφ r r']
          exact List.mem_cons_self
        · exact List.mem_cons_of_mem _ (ih h)
    exact h1 (this t hm)
theorem as_mem : ∀ {as : List Addr} {ns : List Nat}, Paired (fun a n => φ[n]? = some a) as ns → ∀ a ∈ as, ∃ n ∈ ns, φ[n]? = some a
  | _, _, .nil, _, h => by cases h
  | _, _, .cons r t, a, h => by
    rcases List.mem_cons.mp h with e | h
    · subst e; exact ⟨_, List.mem_cons_self, r⟩
    · obtain ⟨n, h1, h2⟩ := as_mem t a h
      exact ⟨n, List.mem_cons_of_mem _ h1, h2⟩
theorem setCells_len : ∀ (ns : List Nat) (cs : List (List PD)) (l : List Cell), (setCells ns cs l).length = l.length
  | [], _, _ => rfl
  | _ :: _, [], _ => rfl
  | n :: ns, c :: cs, l => by unfold setCells; rw [setCells_len ns cs, List.length_set]
theorem setCells_out : ∀ (ns : List Nat) (cs : List (List PD)) (l : List Cell) {k : Nat}, k ∉ ns → (setCells ns cs l)[k]? = l[k]?
  | [], _, _, _, _ => rfl
  | _ :: _, [], _, _, _ => rfl
  | n :: ns, c :: cs, l, k, h => by
    unfold setCells
    rw [setCells_out ns cs _ (fun z => h (List.mem_cons_of_mem _ z)), List.getElem?_set_ne (fun z => h (by rw [z]; exact List.mem_cons_self))]
/-- what stands at a place that was written -/
theorem setCells_in {P : Addr → List PD → Prop} : ∀ {as : List Addr} {ns : List Nat} {cs : List (List PD)}, Paired (fun a n => φ[n]? = some a) as ns → ns.Nodup → Paired P as cs → ∀ {k : Nat} {a : Addr} {l : List Cell}, k ∈ ns → φ[k]? = some a → k < l.length → ∃ x, (setCells ns cs l)[k]? = some (.lst (x.map .p)) ∧ P a x
  | _, _, _, .nil, _, _, _, _, _, hm, _, _ => by cases hm
  | _, _, _, @Paired.cons _ _ _ a0 n as ns r t, hn, .cons (b := c) p q, k, a, l, hm, ha, hl => by
    obtain ⟨h1, h2⟩ := List.nodup_cons.mp hn
    unfold setCells
    by_cases hk : k = n
    · subst hk
      rw [setCells_out _ _ _ h1, List.getElem?_set_self hl]
      rw [r] at ha
      cases ha
      exact ⟨c, rfl, p⟩
    · have hm' : k ∈ ns := by
        rcases List.mem_cons.mp hm with e | hm
        · exact absurd e hk
        · exact hm
      exact setCells_in t h2 q hm' ha (by rw [List.length_set]; exact hl)
/-- the caller's state behind the call -/
theorem Sim.after {G G' H' : Hp} {s : DS} {as : List Addr} {ns : List Nat} {cs' : List (List PD)} (S : Sim K c G φ s σ H) (hp : Paired (fun a n => φ[n]? = some a) as ns) (hn : ns.Nodup) (A : Aft K G H as cs' G' H') :
    Sim K c G' φ { s with cells := setCells ns cs' s.cells } σ H' ∧ Gr G φ G' φ := by
  have gg : Gr G φ G' φ := ⟨A.g, [], by simp⟩
  have inφ : ∀ a ∈ as, a ∈ φ := fun a ha => by
    obtain ⟨n, _, e⟩ := as_mem hp a ha
    exact List.mem_of_getElem? e
  have fresh : ∀ a ∈ φ, G a = none → G' a = none := fun a ha h => by
    cases q : G' a with
    | none => rfl
    | some o => exact absurd h (A.fresh a (by rw [q]; simp) (S.cH a ha))
  refine ⟨⟨A.gh, fun b o e => A.keep b o (fun hb => ?_) (S.rh b o e), fun a h1 h2 => S.fr a (A.fresh a h1 ?_) h2, S.len, fun i d e => ?_, ?_, fun n a x h1 h2 => ?_, S.cR, fun a ha => ?_, S.nd, fun e fs q => ?_⟩, gg⟩
  · rw [S.cR b (inφ b hb)] at e; cases e
  · cases q : c.R a with
    | none => exact absurd q h2
    | some o => rw [S.rh a o q]; simp
  · obtain ⟨v, e1, r⟩ := S.env i d e
    exact ⟨v, e1, r.up gg⟩
  · show (setCells ns cs' s.cells).length = φ.length
    rw [setCells_len]; exact S.clen
  · have h2' : (setCells ns cs' s.cells)[n]? = some x := h2
    have hlt : n < s.cells.length := by rw [S.clen]; exact (List.getElem?_eq_some_iff.mp h1).1
    by_cases hm : n ∈ ns
    · obtain ⟨y, e1, e2, xs, e3, e4⟩ := setCells_in hp hn A.cells hm h1 hlt
      rw [e1] at h2'
      cases (Option.some.inj h2')
      exact ⟨e2, xs, e3, paired_map (fun _ _ z => z) e4⟩
    · rw [setCells_out _ _ _ hm] at h2'
      have ok := S.cell n a x h1 h2'
      have ha : a ∈ φ := List.mem_of_getElem? h1
      have hna : a ∉ as := fun h => by
        obtain ⟨m, h3, h4⟩ := as_mem hp a h
        rw [nodup_at S.nd h1 h4] at hm
        exact hm h3
      cases x with
      | lst l =>
        obtain ⟨hG, vs, hH, r⟩ := ok
        exact ⟨fresh a ha hG, vs, A.keep a _ hna hH, RDs.up gg r⟩
      | froz d => exact Rp.up gg.g d ok
  · by_cases hm : a ∈ as
    · have : ∀ {as : List Addr} {cs : List (List PD)}, Paired (fun a l => G' a = none ∧ ∃ xs, H' a = some (.lst xs) ∧ Paired (Rp K G') xs l) as cs → a ∈ as → H' a ≠ none := by
        intro as cs p
        induction p with
        | nil => intro h; cases h
        | cons r _ ih =>
          intro h
          rcases List.mem_cons.mp h with e | h
          · subst e
            obtain ⟨_, xs, h, _⟩ := r
            rw [h]; simp
          · exact ih h
      exact this A.cells hm
    · cases q : H a with
      | none => exact absurd q (S.cH a ha)
      | some o => rw [A.keep a o hm q]; simp
  · obtain ⟨i, a, cls, d, h1, h2, h3⟩ := S.ex e fs q
    exact ⟨i, a, cls, d, h1, h2, h3.up A.g⟩
/-- a call: from the D-outcome to the promise -/
theorem call_sp {G : Hp} {s : DS} {ms : List Bool} {f : Fn} {vs : List V} {ds : List D} {Q : VK} (S : Sim K c G φ s σ H) (r : RDs K G φ vs ds) (p : Po K c (RD K) (callF ms f ds s) G φ σ Q) : spD K c.cx ms f vs H Q (WE c.W σ) := by
  unfold callF at p
  cases q : passArgs ms ds s with
  | none => rw [q] at p; exact p.elim
  | some z =>
    obtain ⟨xs, ns, s'⟩ := z
    rw [q] at p
    dsimp only at p
    obtain ⟨G1, g1, S1, h1⟩ := passArgs_ok ms ds S r q
    by_cases hn : nodupB ns = true
    · rw [if_pos hn] at p
      have hn' := nodupB_ok hn
      cases q2 : cont s' ns with
      | none => rw [q2] at p; exact p.elim
      | some cs =>
        rw [q2] at p
        obtain ⟨as, h2, h3, h4⟩ := pre_args S1 h1 q2
        refine ⟨G1, xs, cs, as, S1.gh, h2, as_nodup S1.nd h3 hn', h4, ?_⟩
        dsimp only at p
        cases q3 : f xs cs with
        | ok d cs' =>
          rw [q3] at p
          intro v G' H' A rv
          obtain ⟨S2, g2⟩ := S1.after h3 hn' A
          exact Po.ok p (g1.trans g2) S2 rv
        | new l cs' =>
          rw [q3] at p
          intro a ys G' H' A hH rl hG hHn
          obtain ⟨S2, g2⟩ := S1.after h3 hn' A
          -- the new list becomes a cell
          have hcl : (setCells ns cs' s'.cells).length = s'.cells.length := setCells_len ..
          have hna : a ∉ φ := fun hm => S1.cH a hm hHn
          have hR : c.R a = none := by
            cases e : c.R a with
            | none => rfl
            | some o => rw [S1.rh a o e] at hHn; cases hHn
          have gg : Gr G' φ G' (φ ++ [a]) := ⟨Same.refl _, [a], rfl⟩
          have S3 : Sim K c G' (φ ++ [a]) { s' with cells := setCells ns cs' s'.cells ++ [.lst (l.map .p)] } σ H' := by
            refine ⟨S2.gh, S2.rh, S2.fr, S2.len, fun i d e => ?_, by rw [List.length_append, List.length_append]; exact congrArg (· + 1) S2.clen, fun n b x e1 e2 => ?_, fun b hb => ?_, fun b hb => ?_, ?_, S2.ex⟩
            · obtain ⟨v, e1, r⟩ := S2.env i d e
              exact ⟨v, e1, r.up gg⟩
            · have e2' : (setCells ns cs' s'.cells ++ [Cell.lst (l.map .p)])[n]? = some x := e2
              by_cases hlt : n < φ.length
              · rw [List.getElem?_append_left hlt] at e1
                rw [List.getElem?_append_left (by rw [hcl, S1.clen]; exact hlt)] at e2'
                have ok := S2.cell n b x e1 e2'
                cases x with
                | lst l2 =>
                  obtain ⟨g0, vs', hh, r'⟩ := ok
                  exact ⟨g0, vs', hh, RDs.up gg r'⟩
                | froz d => exact ok
              · have hn2 : n = φ.length := by
                  have := (List.getElem?_eq_some_iff.mp e1).1
                  rw [List.length_append, List.length_singleton] at this
                  omega
                subst hn2
                rw [List.getElem?_append_right (Nat.le_refl _), Nat.sub_self] at e1
                rw [List.getElem?_append_right (by rw [hcl, S1.clen]; exact Nat.le_refl _), hcl, S1.clen, Nat.sub_self] at e2'
                have e1' : a = b := by simpa using e1
                have e2'' : Cell.lst (l.map .p) = x := by simpa using e2'
                subst e1' e2''
                exact ⟨hG, ys, hH, RDs.up gg (paired_map (fun _ _ z => z) rl)⟩
            · rcases List.mem_append.mp hb with hb | hb
              · exact S2.cR b hb
              · have : b = a := by simpa using hb
                rw [this]; exact hR
            · rcases List.mem_append.mp hb with hb | hb
              · exact S2.cH b hb
              · have : b = a := by simpa using hb
                rw [this, hH]; simp
            · rw [List.nodup_append]
              refine ⟨S2.nd, by simp, fun x hx y hy => ?_⟩
              have : y = a := by simpa using hy
              subst this
              exact fun z => hna (z ▸ hx)
          refine Po.ok p ((g1.trans g2).trans gg) S3 ⟨a, ?_, rfl⟩
          rw [S1.clen]
          exact at_last
        | exc e fs cs' =>
          rw [q3] at p
          intro cls dd G' H' A xr
          obtain ⟨S2, g2⟩ := S1.after h3 hn' A
          exact p cls dd G' φ H' (g1.trans g2) S2 xr
        | no => rw [q3] at p; exact p.elim
    · rw [if_neg hn] at p
      exact p.elim
end
def mCall (ms : List Bool) (f : Fn) (n : DS → ER (List D)) : DS → ER D := mb n (callF ms f)
/-- defaults at the end -/
def mCallD (ms : List Bool) (f : Fn) (dfl : List PD) (n : DS → ER (List D)) : DS → ER D := mb n fun ds => callF ms f (ds ++ dfl.map .p)
section
variable {X : Cx} {c : DC} {k : Nat} {fa : Addr} {fd : FuncData} {ps : List Str} {ds : List Value} {x : Str} {p pos : Pos} {e : Expr} {es : List Expr} {n : DS → ER (List D)} {ms : List Bool} {f : Fn}
theorem de_call (F : FnOk X.prog X.w X.K X.mg X.base (L2.CX X.prog X.w) k fa fd ps (spD X.K c.cx ms f)) (hr : Room k X.A) (tk : Takes X c.W) (hm : X.mg x = some (.ref fa)) (hk : PySem.W.keepIn X.K (.ref fa) = true) (hb : Binds X.K fd ps []) (ha : DA X c (e :: es) n) (hg : Gl X x := by rfl)
    (hdb : (x == ("__debug__" : Str)) = false := by decide) (he : starEach (e :: es) X.env = (false, eval e X.env) :: starEach es X.env := by rfl) (hpl : (backTo pos (starEach es X.env)).any (·.1) = false := by rfl) :
    DE X c (.Call (.Name x p) (e :: es) [] pos) (mCall ms f n) := pe_imp (pe_callS F hr hg hm hk hb (fun σ => passAt tk σ) ha hdb he hpl) fun σ H Q h => by
  obtain ⟨G, φ, s, S, p⟩ := h
  refine (rd.bind (rel := RDs X.K) S p).mono fun vs H1 ⟨G1, φ1, s1, d, g1, S1, r1, p1⟩ => ?_
  exact call_sp S1 r1 p1
theorem de_callD {dvs : List V} {dfl : List PD} (F : FnOk X.prog X.w X.K X.mg X.base (L2.CX X.prog X.w) k fa fd ps (spD X.K c.cx ms f)) (hr : Room k X.A) (tk : Takes X c.W) (hm : X.mg x = some (.ref fa)) (hk : PySem.W.keepIn X.K (.ref fa) = true) (hb : Binds X.K fd ps ds) (hd : Vals dvs ds) (hdf : ∀ G, Paired (Rp X.K G) dvs dfl) (ha : DA X c (e :: es) n) (hg : Gl X x := by rfl)
    (hdb : (x == ("__debug__" : Str)) = false := by decide) (he : starEach (e :: es) X.env = (false, eval e X.env) :: starEach es X.env := by rfl) (hpl : (backTo pos (starEach es X.env)).any (·.1) = false := by rfl) :
    DE X c (.Call (.Name x p) (e :: es) [] pos) (mCallD ms f dfl n) := pe_imp (pe_callSD F hr hg hm hk hb hd (fun σ => passAt tk σ) ha hdb he hpl) fun σ H Q h => by
  obtain ⟨G, φ, s, S, p⟩ := h
  refine (rd.bind (rel := RDs X.K) S p).mono fun vs H1 ⟨G1, φ1, s1, d, g1, S1, r1, p1⟩ => ?_
  exact call_sp S1 (paired_append r1 (paired_map (fun _ _ z => z) (hdf G1))) p1
end

def noX {α : Type} (m : DS → ER α) : DS → ER α := fun s => match m s with
  | .exc _ _ _ => .no
  | o => o
theorem call_sp0 {K : PySem.W.Frag} {c : DC} {φ : List Addr} {σ : St} {H : Hp} {G : Hp} {s : DS} {ms : List Bool} {f : Fn} {vs : List V} {ds : List D} {Q : VK} (S : Sim K c G φ s σ H) (r : RDs K G φ vs ds) (p : Po K c (RD K) (noX (callF ms f ds) s) G φ σ Q) : spD K c.cx ms f vs H Q E0 := by
  have S' : Sim K { c with W := fun _ _ _ _ => False } G φ s σ H := ⟨S.gh, S.rh, S.fr, S.len, S.env, S.clen, fun n a x h1 h2 => by
    have h := S.cell n a x h1 h2
    cases x with
    | lst l => exact h
    | froz d => exact h, S.cR, S.cH, S.nd, S.ex⟩
  have p' : Po K { c with W := fun _ _ _ _ => False } (RD K) (callF ms f ds s) G φ σ Q := by
    unfold noX at p
    cases q : callF ms f ds s with
    | ok d s' =>
      rw [q] at p
      exact fun v G' φ' H' g S2 r2 => p v G' φ' H' g ⟨S2.gh, S2.rh, S2.fr, S2.len, S2.env, S2.clen, fun n a x h1 h2 => by
        have h := S2.cell n a x h1 h2
        cases x with
        | lst l => exact h
        | froz d => exact h, S2.cR, S2.cH, S2.nd, S2.ex⟩ r2
    | exc e fs s' => rw [q] at p; exact p.elim
    | no => rw [q] at p; exact p.elim
  have h := call_sp (c := { c with W := fun _ _ _ _ => False }) S' r p'
  exact h
def mKw (ms : List Bool) (f : Fn) (np nk : Nat) (gd : List D → List D → List D) (n n2 : DS → ER (List D)) : DS → ER D := mb n fun ds => mb n2 fun es s => if ds.length = np ∧ es.length = nk then noX (callF ms f (gd ds es)) s else .no
abbrev DK (X : Cx) (c : DC) (kws : List Keyword) (m : DS → ER (List D)) : Prop := PK X kws (rd X.K c (RDs X.K) m)
theorem pk_imp {X : Cx} {es : List Keyword} {t t' : TA} (h : PK X es t) (i : ∀ σ H Q, t' σ H Q → t σ H Q) : PK X es t' := ⟨fun pos pins s σ H Q I q => h.run pos pins s σ H Q I (i _ _ _ q)⟩
theorem dk_nil {X : Cx} {c : DC} : DK X c [] mNil := pk_imp pk_nil fun σ H Q h => by
  obtain ⟨G, φ, s, S, p⟩ := h
  exact Po.ok p Gr.refl S .nil
theorem dk_cons {X : Cx} {c : DC} {e : Expr} {nm : Option Str} {kpos : Pos} {kws : List Keyword} {m : DS → ER D} {n : DS → ER (List D)} (ha : DE X c e m) (hr : DK X c kws n) : DK X c (⟨nm, e, kpos⟩ :: kws) (mCons m n) := pk_imp (pk_cons ha hr) fun σ H Q h => by
  obtain ⟨G, φ, s, S, p⟩ := h
  refine (rd.bind (rel := RD X.K) S p).mono fun v H1 ⟨G1, φ1, s1, d, g1, S1, r1, p1⟩ => ?_
  refine (rd.bind (rel := RDs X.K) S1 p1).mono fun vs H2 ⟨G2, φ2, s2, ds, g2, S2, r2, p2⟩ => ?_
  exact Po.ok p2 Gr.refl S2 (.cons (r1.up g2) r2)
theorem de_kw {X : Cx} {c : DC} {k np nk : Nat} {fa : Addr} {fd : FuncData} {ps ks : List Str} {x : Str} {p pos : Pos} {e : Expr} {es : List Expr} {kws : List Keyword} {n n2 : DS → ER (List D)} {ms : List Bool} {f : Fn} {g : List Value → List Value → List Value} {gV : List V → List V → List V} {gd : List D → List D → List D}
    (F : FnOk X.prog X.w X.K X.mg X.base (L2.CX X.prog X.w) k fa fd ps (spD X.K c.cx ms f)) (hr : Room k X.A) (hm : X.mg x = some (.ref fa)) (hk : PySem.W.keepIn X.K (.ref fa) = true) (hb : KBn X.K fd ps np ks g gV)
    (hgd : ∀ (G : Hp) (φ : List Addr) {vs zs : List V} {ds es : List D}, RDs X.K G φ vs ds → RDs X.K G φ zs es → RDs X.K G φ (gV vs zs) (gd ds es)) (ha : DA X c (e :: es) n) (hkw : DK X c kws n2) (hnk : ks.length = nk := by rfl) (hg : Gl X x := by rfl)
    (hall : (backToKw pos (keywordEach kws X.env)).all (·.1.isSome) = true := by rfl) (hks : (backToKw pos (keywordEach kws X.env)).filterMap (·.1) = ks := by rfl)
    (hdb : (x == ("__debug__" : Str)) = false := by decide) (he : starEach (e :: es) X.env = (false, eval e X.env) :: starEach es X.env := by rfl)
    (hpl : ((backTo pos (starEach (e :: es) X.env)).any (·.1) || (backToKw pos (keywordEach kws X.env)).any (·.1.isNone)) = false := by rfl) :
    DE X c (.Call (.Name x p) (e :: es) kws pos) (mKw ms f np nk gd n n2) := pe_imp (pe_callN F hr hg hm hk hb passL ha hkw hall hks hdb he hpl) fun σ H Q h => by
  subst hnk
  obtain ⟨G, φ, s, S, p⟩ := h
  refine (rd.bind (rel := RDs X.K) S p).mono fun vs H1 ⟨G1, φ1, s1, ds, g1, S1, r1, p1⟩ => ?_
  refine (rd.bind (rel := RDs X.K) S1 p1).mono fun zs H2 ⟨G2, φ2, s2, es', g2, S2, r2, p2⟩ => ?_
  split at p2
  · rename_i hl
    exact ⟨by rw [paired_length r1]; exact hl.1, by rw [paired_length r2]; exact hl.2, call_sp0 S2 (hgd G2 φ2 (RDs.up g2 r1) r2) p2⟩
  · exact p2.elim

def contN (n : Nat) (s : DS) : Option (List (List PD)) := cont s (List.range n)
def initE : List Bool → List PD → Nat → List (Option D)
  | false :: ms, d :: ds, k => some (.p d) :: initE ms ds k
  | true :: ms, ds, k => some (.ref k) :: initE ms ds (k + 1)
  | _, _, _ => []
def entry (N : Nat) (ms : List Bool) (ds : List PD) (cs : List (List PD)) : DS :=
  { env := initE ms ds 0 ++ List.replicate (N - ms.length) none, cells := cs.map fun l => .lst (l.map .p) }
def finR (nw : Bool) (n : Nat) (d : D) (s : DS) : FR := match nw with
  | false => match frz fuel s d with
    | some (x, s') => match contN n s' with
      | some cs => .ok x cs
      | none => .no
    | none => .no
  | true => match d with
    | .ref k => if n ≤ k then match s.cells[k]? with
        | some (.lst l) => match frzs fuel s l with
          | some (xs, s') => match s'.cells[k]? with
            | some (.lst _) => match contN n s' with
              | some cs => .new xs cs
              | none => .no
            | _ => .no
          | none => .no
        | _ => .no
      else .no
    | _ => .no
def fin (nw : Bool) (n : Nat) : SR → FR
  | .nx s => finR nw n (.p .non) s
  | .rt d s => finR nw n d s
  | .exc e fs s => match contN n s with
    | some cs => .exc e fs cs
    | none => .no
  | _ => .no
/-- the def's function, from its body's -/
def runF (N : Nat) (ms : List Bool) (nw : Bool) (m : DS → SR) : Fn := fun ds cs => fin nw cs.length (m (entry N ms ds cs))
section
variable {K : PySem.W.Frag} {cx : Nat → Addr} {G H : Hp} {as : List Addr}
theorem init_env {φ : List Addr} : ∀ {ms : List Bool} {vs : List V} {ds : List PD} {cs : List (List PD)} {as : List Addr}, RArgs K G H ms vs ds cs as → ∀ (k : Nat), (∀ j a, as[j]? = some a → φ[k + j]? = some a) →
    (initE ms ds k).length = ms.length ∧ ∀ (i : Nat) (d : D), (initE ms ds k)[i]? = some (some d) → ∃ v, vs[i]? = some v ∧ RD K G φ v d := by
  intro ms vs ds cs as h
  induction h with
  | nil => intro k hk; exact ⟨rfl, fun i d e => by simp [initE] at e⟩
  | @p v d ms vs ds cs as r _ ih =>
    intro k hk
    obtain ⟨h1, h2⟩ := ih k hk
    refine ⟨by simp [initE, h1], fun i d' e => ?_⟩
    cases i with
    | zero =>
      have e' : d' = .p d := by simpa [initE] using e.symm
      subst e'
      exact ⟨v, rfl, r⟩
    | succ i => exact h2 i d' (by simpa [initE] using e)
  | @m a xs l ms vs ds cs as hH r _ ih =>
    intro k hk
    obtain ⟨h1, h2⟩ := ih (k + 1) fun j b e => by
      have := hk (j + 1) b (by simpa using e)
      rw [Nat.add_assoc, Nat.add_comm 1 j]
      exact this
    refine ⟨by simp [initE, h1], fun i d' e => ?_⟩
    cases i with
    | zero =>
      have e' : d' = .ref k := by simpa [initE] using e.symm
      subst e'
      exact ⟨.ref a, rfl, a, hk 0 a rfl, rfl⟩
    | succ i => exact h2 i d' (by simpa [initE] using e)
/-- the rigid heap of a def's body: all but the lists that it may change -/
def rigid (H : Hp) (as : List Addr) : Hp := fun b => if b ∈ as then none else H b
theorem rigid_out {H : Hp} {as : List Addr} {b : Addr} (h : b ∉ as) : rigid H as b = H b := if_neg h
theorem rigid_in {H : Hp} {as : List Addr} {b : Addr} (h : b ∈ as) : rigid H as b = none := if_pos h
theorem RArgs.at {ms : List Bool} {vs : List V} {ds : List PD} {cs : List (List PD)} {as : List Addr} (h : RArgs K G H ms vs ds cs as) : Paired (fun a l => ∃ xs, H a = some (.lst xs) ∧ Paired (Rp K G) xs l) as cs := by
  induction h with
  | nil => exact .nil
  | p _ _ ih => exact ih
  | m hH r _ ih => exact .cons ⟨_, hH, r⟩ ih
theorem entry_sim {N : List Str} {ms : List Bool} {vs : List V} {ds : List PD} {cs : List (List PD)} {W : WX} (gh : Same G H) (h : RArgs K G H ms vs ds cs as) (nd : as.Nodup) (hG : ∀ a ∈ as, G a = none) (hN : ms.length ≤ N.length) :
    Sim K ⟨cx, rigid H as, G, none, W⟩ G as (entry N.length ms ds cs) (start N vs) H := by
  obtain ⟨h1, h2⟩ := init_env (φ := as) h 0 (fun j a e => by rw [Nat.zero_add]; exact e)
  have hl : vs.length = ms.length := h.length
  have pr := h.at
  refine ⟨gh, fun b o e => ?_, fun a ha hr => ha, ?_, fun i d e => ?_, ?_, fun n a x e1 e2 => ?_, fun a ha => rigid_in ha, fun a ha => ?_, nd, fun e fs q => by cases q⟩
  · by_cases hb : b ∈ as
    · have e' : rigid H as b = some o := e
      rw [rigid_in hb] at e'; cases e'
    · have e' : rigid H as b = some o := e
      rw [rigid_out hb] at e'; exact e'
  · unfold entry L2.start
    simp only [List.length_append, List.length_map, List.length_replicate, h1, hl]
  · have e' : (initE ms ds 0 ++ List.replicate (N.length - ms.length) none)[i]? = some (some d) := e
    by_cases hi : i < (initE ms ds 0).length
    · rw [List.getElem?_append_left hi] at e'
      obtain ⟨v, hv, r⟩ := h2 i d e'
      refine ⟨v, ?_, r⟩
      unfold L2.start
      rw [List.getElem?_append_left (by rw [List.length_map, hl, ← h1]; exact hi), List.getElem?_map, hv] <;> rfl
    · rw [List.getElem?_append_right (by omega), List.getElem?_replicate] at e'
      split at e'
      · cases e'
      · cases e'
  · show (cs.map _).length = as.length
    rw [List.length_map]; exact h.clen
  · have e2' : (cs.map fun l => Cell.lst (l.map .p))[n]? = some x := e2
    rw [List.getElem?_map] at e2'
    cases q : cs[n]? with
    | none => rw [q] at e2'; cases e2'
    | some l =>
      rw [q] at e2'
      cases (Option.some.inj e2')
      obtain ⟨a', ha', xs, hH, r⟩ := paired_get pr q
      rw [e1] at ha'
      cases ha'
      exact ⟨hG a (List.mem_of_getElem? e1), xs, hH, paired_map (fun _ _ z => z) r⟩
  · obtain ⟨n, hn⟩ := List.mem_iff_getElem?.mp ha
    have hlt : n < cs.length := by rw [h.clen]; exact (List.getElem?_eq_some_iff.mp hn).1
    obtain ⟨a', ha', xs, hH, _⟩ := paired_get pr (List.getElem?_eq_getElem hlt)
    rw [hn] at ha'
    cases ha'
    rw [hH]; simp
theorem paired_of_at {P : Addr → List PD → Prop} : ∀ {as : List Addr} {cs : List (List PD)}, as.length = cs.length → (∀ (n : Nat) (a : Addr) (l : List PD), as[n]? = some a → cs[n]? = some l → P a l) → Paired P as cs
  | [], [], _, _ => .nil
  | a :: as, l :: cs, hl, h => .cons (h 0 a l rfl rfl) (paired_of_at (by simpa using hl) fun n b x e1 e2 => h (n + 1) b x (by simpa using e1) (by simpa using e2))
theorem cont_at {s : DS} : ∀ {ns : List Nat} {cs : List (List PD)}, cont s ns = some cs → cs.length = ns.length ∧ ∀ (j n : Nat) (l : List PD), ns[j]? = some n → cs[j]? = some l → ∃ l0, s.cells[n]? = some (.lst l0) ∧ pds l0 = some l
  | [], cs, e => by cases (Option.some.inj e); exact ⟨rfl, fun j n l h => by simp at h⟩
  | n :: ns, cs, e => by
    unfold cont at e
    cases q : s.cells[n]? with
    | none => rw [q] at e; cases e
    | some x =>
      rw [q] at e
      cases x with
      | froz _ => cases e
      | lst l0 =>
        dsimp only at e
        obtain ⟨x, e1, e2⟩ := Option.bind_eq_some_iff.mp e
        obtain ⟨xs, e3, e4⟩ := Option.map_eq_some_iff.mp e2
        subst e4
        obtain ⟨h1, h2⟩ := cont_at e3
        refine ⟨by simp [h1], fun j n' l' hj hl => ?_⟩
        cases j with
        | zero =>
          simp at hj hl
          subst hj hl
          exact ⟨l0, q, e1⟩
        | succ j => exact h2 j n' l' (by simpa using hj) (by simpa using hl)
/-- the end of a def's body: what the caller finds -/
theorem exit_aft {ms : List Bool} {vs : List V} {ds : List PD} {cs cs' : List (List PD)} {W : WX} {G' H' : Hp} {φ' : List Addr} {s' : DS} {σ' : St} (h : RArgs K G H ms vs ds cs as) (nd : as.Nodup)
    (g : Gr G as G' φ') (S : Sim K ⟨cx, rigid H as, G, none, W⟩ G' φ' s' σ' H') (e : contN cs.length s' = some cs') : Aft K G H as cs' G' H' := by
  obtain ⟨hl, hat⟩ := cont_at e
  rw [List.length_range] at hl
  have cells : ∀ (n : Nat) (a : Addr) (l : List PD), as[n]? = some a → cs'[n]? = some l → G' a = none ∧ ∃ xs, H' a = some (.lst xs) ∧ Paired (Rp K G') xs l := fun n a l e1 e2 => by
    have hn : n < cs.length := by rw [h.clen]; exact (List.getElem?_eq_some_iff.mp e1).1
    obtain ⟨l0, h1, h2⟩ := hat n n l (List.getElem?_range hn) e2
    obtain ⟨h3, xs, h4, h5⟩ := S.cell n a _ (g.at e1) h1
    exact ⟨h3, xs, h4, pds_ok h5 h2⟩
  have hlen : as.length = cs'.length := by rw [hl, h.clen]
  refine ⟨g.g, S.gh, fun b o hb hH => S.rh b o (by show rigid H as b = some o; rw [rigid_out hb]; exact hH), fun b h1 h2 => ?_, paired_of_at hlen cells⟩
  by_cases hb : b ∈ as
  · obtain ⟨n, hn⟩ := List.mem_iff_getElem?.mp hb
    have hlt : n < cs'.length := by rw [← hlen]; exact (List.getElem?_eq_some_iff.mp hn).1
    obtain ⟨h3, _⟩ := cells n b _ hn (List.getElem?_eq_getElem hlt)
    exact absurd h3 h1
  · exact S.fr b h1 (by show rigid H as b ≠ none; rw [rigid_out hb]; exact h2)
theorem fin_ok {N : List Str} {ms : List Bool} {nw : Bool} {m : DS → SR} {vs : List V} {ds : List PD} {cs : List (List PD)} {Q : VK} {E : XK} (h : RArgs K G H ms vs ds cs as) (nd : as.Nodup)
    (p : PoF K cx G H as (runF N.length ms nw m ds cs) Q E) : PoS K ⟨cx, rigid H as, G, none, fun cls d _ H' => E cls d H'⟩ (m (entry N.length ms ds cs)) G as { nx := fun _ H' => Q .non H', rt := Q } := by
  unfold runF at p
  have ret : ∀ {d : D} {s' : DS}, PoF K cx G H as (finR nw cs.length d s') Q E → ∀ v σ' G' φ' H', Gr G as G' φ' → Sim K ⟨cx, rigid H as, G, none, fun cls d _ H' => E cls d H'⟩ G' φ' s' σ' H' → RD K G' φ' v d → Q v H' := by
    intro d s' p v σ' G' φ' H' g S r
    unfold finR at p
    cases nw with
    | false =>
      dsimp only at p
      cases q : frz fuel s' d with
      | none => rw [q] at p; exact p.elim
      | some z =>
        obtain ⟨x, s2⟩ := z
        rw [q] at p
        dsimp only at p
        obtain ⟨G2, g2, S2, h2⟩ := frz_ok fuel d S q
        cases q2 : contN cs.length s2 with
        | none => rw [q2] at p; exact p.elim
        | some cs' =>
          rw [q2] at p
          exact p v G2 H' (exit_aft h nd (g.trans g2) S2 q2) (h2 v r)
    | true =>
      cases d with
      | p _ => exact p.elim
      | ref k =>
        dsimp only at p
        by_cases hk : cs.length ≤ k
        · rw [if_pos hk] at p
          cases q : s'.cells[k]? with
          | none => rw [q] at p; exact p.elim
          | some x =>
            rw [q] at p
            cases x with
            | froz _ => exact p.elim
            | lst l =>
              dsimp only at p
              cases q1 : frzs fuel s' l with
              | none => rw [q1] at p; exact p.elim
              | some z =>
                obtain ⟨xs, s2⟩ := z
                rw [q1] at p
                dsimp only at p
                obtain ⟨G2, g2, S2, h2⟩ := frzs_ok fuel l S q1
                cases q3 : s2.cells[k]? with
                | none => rw [q3] at p; exact p.elim
                | some y =>
                  rw [q3] at p
                  cases y with
                  | froz _ => exact p.elim
                  | lst l2 =>
                    dsimp only at p
                    cases q4 : contN cs.length s2 with
                    | none => rw [q4] at p; exact p.elim
                    | some cs' =>
                      rw [q4] at p
                      obtain ⟨a, ha, rfl⟩ := r
                      obtain ⟨_, ws, hH, rw1⟩ := S.cell k a _ ha q
                      obtain ⟨hG2, _, _, _⟩ := S2.cell k a _ ha q3
                      have hna : a ∉ as := fun hm => by
                        obtain ⟨j, hj⟩ := List.mem_iff_getElem?.mp hm
                        have := nodup_at S.nd (g.at hj) ha
                        have hlt := (List.getElem?_eq_some_iff.mp hj).1
                        rw [← h.clen] at hlt
                        omega
                      have hR : rigid H as a = none := S.cR a (List.mem_of_getElem? ha)
                      rw [rigid_out hna] at hR
                      exact p a ws G2 H' (exit_aft h nd (g.trans g2) S2 q4) hH (h2 ws rw1) hG2 hR
        · rw [if_neg hk] at p
          exact p.elim
  cases q : m (entry N.length ms ds cs) with
  | nx s' => rw [q] at p; exact fun σ' G' φ' H' g S => ret (d := .p .non) p .non σ' G' φ' H' g S Rp.non
  | rt d s' => rw [q] at p; exact ret p
  | bk s' => rw [q] at p; exact p.elim
  | ct s' => rw [q] at p; exact p.elim
  | exc e fs s' =>
    rw [q] at p
    intro cls dd σ' G' φ' H' g S xr
    unfold fin at p
    dsimp only at p
    cases q2 : contN cs.length s' with
    | none => rw [q2] at p; exact p.elim
    | some cs' =>
      rw [q2] at p
      exact p cls dd G' H' (exit_aft h nd g S q2) xr
  | no => rw [q] at p; exact p.elim
end
/-- THE RULE for a def -/
theorem def_ok {P : Program} {w : World} {K : PySem.W.Frag} {mg : Str → Option Value} {base : Heap} {cx : Nat → Addr} {x qual : Str} {st : Stmt} {f : Addr} {fd : FuncData} {N ps : List Str} {k : Nat} {ms : List Bool} {nw : Bool} {m : DS → SR} (F : Fun K x qual st f fd) (S : FnScope N ps (defScope st))
    (hb : ∀ (cdv : Value) (A : Around) (outer : List Env) (s : Shared) (H : Hp) (E : XK) (R G0 : Hp) (W : WX), Takes (cxOf (L2.CX P w) P w K mg base N qual (defScope st) f cdv A outer s H E) W → Room k (A.deeper (PyProof.Rows.envOfC qual (defScope st) s.heap.objs.size f cdv)) →
      DSs (cxOf (L2.CX P w) P w K mg base N qual (defScope st) f cdv A outer s H E) ⟨cx, R, G0, none, W⟩ (defBody st) m) (hm : ms.length = ps.length := by rfl) (hN : ps.length ≤ N.length := by decide) : FnOk P w K mg base (L2.CX P w) (k + 1) f fd ps (spD K cx ms (runF N.length ms nw m)) := by
  refine F.okX S (fun vs H Q E h => ?_) fun cdv A outer s H vs Q E hr h => ?_
  · obtain ⟨G, ds, cs, as, _, h2, _⟩ := h
    rw [h2.length]; exact hm
  · obtain ⟨G, ds, cs, as, h1, h2, h3, h4, h5⟩ := h
    refine ⟨_, hb cdv A outer s H E (rigid H as) G (fun cls d _ H' => E cls d H') (takes_of rfl rfl rfl rfl) hr, ?_⟩
    exact ⟨G, as, _, entry_sim h1 h2 h3 h4 (by rw [hm]; exact hN), fin_ok h2 h3 h5⟩
theorem defD_ok {P : Program} {w : World} {K : PySem.W.Frag} {mg : Str → Option Value} {base : Heap} {cx : Nat → Addr} {x qual : Str} {params : Arguments} {body : List Stmt} {scope : Scope} {dvs : List V} {kws : List (Str × V)} {f : Addr} {fd : FuncData} {N ps : List Str} {k : Nat} {ms : List Bool} {nw : Bool} {m : DS → SR} (F : FunD K x qual params body scope dvs kws f fd) (S : FnScope N ps scope)
    (hb : ∀ (cdv : Value) (A : Around) (outer : List Env) (s : Shared) (H : Hp) (E : XK) (R G0 : Hp) (W : WX), Takes (cxOf (L2.CX P w) P w K mg base N qual scope f cdv A outer s H E) W → Room k (A.deeper (PyProof.Rows.envOfC qual scope s.heap.objs.size f cdv)) →
      DSs (cxOf (L2.CX P w) P w K mg base N qual scope f cdv A outer s H E) ⟨cx, R, G0, none, W⟩ body m) (hm : ms.length = ps.length := by rfl) (hN : ps.length ≤ N.length := by decide) : FnOk P w K mg base (L2.CX P w) (k + 1) f fd ps (spD K cx ms (runF N.length ms nw m)) := by
  refine F.ok S (fun vs H Q E h => ?_) fun cdv A outer s H vs Q E hr h => ?_
  · obtain ⟨G, ds, cs, as, _, h2, _⟩ := h
    rw [h2.length]; exact hm
  · obtain ⟨G, ds, cs, as, h1, h2, h3, h4, h5⟩ := h
    refine ⟨_, hb cdv A outer s H E (rigid H as) G (fun cls d _ H' => E cls d H') (takes_of rfl rfl rfl rfl) hr, ?_⟩
    exact ⟨G, as, _, entry_sim h1 h2 h3 h4 (by rw [hm]; exact hN), fin_ok h2 h3 h5⟩
end DL
namespace L2
open PySem PySem.Spec PyProof.Rows
/-- the end of C(), an exception without a dict -/
theorem mk_endN {X : Cx} {pins : List (Addr × Obj)} {σ : St} {H1 H2 : Hp} {Q : XK} {hp hp2 h2 : Heap} {g1 g2 : Array GenState} {d1 d2 : Drawn} {t1 t2 : Nat} {os1 os2 : OsState} {a C : Addr} (T : Raises X (.ref C)) (I1 : Inv X pins σ H1 ⟨hp, g1, d1, t1, os1⟩)
    (ha : hp.objs.size ≤ a) (k : ∀ b o, hp.get? b = some o → hp2.get? b = some o) (un : Un (frs X.stack) [] (upd H1 a (exo a C none)) H2 hp2 h2) (hok : HOk X.prog X.w H2 h2) (ho : os2 = os1) (hb : AllBare g2)
    (ea : H2 a = some (exo a C none)) (q : Q (.ref C) none (del H2 a)) : MkP X pins σ Q (.ref a) ⟨h2, g2, d2, t2, os2⟩ := by
  obtain ⟨t0, hoe⟩ := exo_at hok ea
  have hn : H1 a = none := I1.hok.fresh ha
  obtain ⟨G, g1', g2'⟩ := restrict h2 fun b => decide (b ≠ a)
  have gk : ∀ b, b ≠ a → G.get? b = h2.get? b := fun b hb => g1' b (decide_eq_true hb)
  have ge : G.get? a = none := g2' a (by simp)
  have nha : ∀ {b : Addr} {o : Obj}, hp.get? b = some o → b ≠ a := fun {b o} z => Nat.ne_of_lt (Nat.lt_of_lt_of_le (Heap.lt_size z) ha)
  have up : ∀ {b : Addr}, b ≠ a → H1 b = none → upd H1 a (exo a C none) b = none := fun {b} hb n => by rw [upd_ne hb]; exact n
  have U : Un (frs X.stack) [] H1 (del H2 a) hp G := {
    keep := fun b o z n hf hx => by
      rw [gk b (nha z)]
      exact un.keep b o (k b o z) (up (nha z) n) hf hx
    slot := fun b o z n hf hx => by
      rw [gk b (nha z)]
      exact un.slot b o (k b o z) (up (nha z) n) hf hx
    free := fun b o z n hx => by
      rw [del_ne (nha z)]
      exact un.free b o (k b o z) (up (nha z) n) hx
    there := fun b o z hx => by
      rw [gk b (nha z)]
      exact un.there b o (k b o z) hx
    tups := fun b xs z => by
      rw [del_ne (ne_of_none z hn)]
      exact un.tups b xs (by rw [upd_ne (ne_of_none z hn)]; exact z)
    frzs := fun b o v z => by
      rw [del_ne (ne_of_none z hn)]
      exact un.frzs b o v (by rw [upd_ne (ne_of_none z hn)]; exact z)
    tbls := fun b ps z => by
      rw [del_ne (ne_of_none z hn)]
      exact un.tbls b ps (by rw [upd_ne (ne_of_none z hn)]; exact z) }
  have hok3 : HOk X.prog X.w (del H2 a) G := fun b o z => by
    have hba : b ≠ a := fun e => by
      rw [e, del_same] at z
      cases z
    rw [del_ne hba] at z
    have noa : ∀ {c : Addr}, H2 c = some (.own b) → c ≠ a := fun {c} hc => at_ne ea hc exo_own
    exact (hok b o z).stay (fun c v hc y => by
        have hca : c ≠ a := by
          rcases hc with hc | hc
          · rw [hc]
            exact hba
          · exact noa hc
        rw [gk c hca]
        exact y)
      (fun c hc => by rw [del_ne (noa hc)]; exact hc) (fun c xs hc => by rw [del_ne (at_ne ea hc exo_tup)]; exact hc)
  have J : Inv X pins σ (del H2 a) ⟨G, g2, d2, t2, os2⟩ := I1.call' (ch := []) ho U hok3 hb (fun b z => absurd z (by simp))
  refine ⟨a, _, _, ⟨G, g2, d2, t2, os2⟩, _, .ref C, none, rfl, J, fun b o z => ?_, ge, hoe, ⟨rfl, rfl⟩, rfl, rfl, del_same, rfl, hb, T, q⟩
  by_cases hba : b = a
  · have z' : G.get? b = some o := z
    rw [hba, ge] at z'
    cases z'
  · exact (gk b hba).symm.trans z
/-- C(), C's own __init__ keeping sp -/
def tMkO0 (C : Addr) (sp : Sp) : St → Hp → XK → Prop := fun σ H Q => ∀ a, H a = none → sp [.ref a] (upd H a (exo a C none))
  (fun v H2 => v = .non ∧ H2 a = some (exo a C none) ∧ Q (.ref C) none (del H2 a)) (fun _ _ _ => False)
theorem pmk_oex0 {X : Cx} {CX : CXT} {x : Str} {C fI : Addr} {k : Nat} {fd : FuncData} {ps : List Str} {sp : Sp} {p pos : Pos} (T : OexC X.K C) (iC : PySem.W.findIn X.K (.ref C) "__init__" = some (some (.ref fI))) (tI : PySem.W.typeIn X.K (.ref fI) = some (.type "function"))
    (F1 : FnOk X.prog X.w X.K X.mg X.base CX k fI fd ps sp) (hr : Room (k + 1) X.A) (hb : Binds X.K fd ps []) (hx : Passes CX X (fun _ _ _ => False)) (hg : Gl X x) (hm : X.mg x = some (.ref C))
    (hdb : (x == ("__debug__" : Str)) = false := by decide) : PMk X (.Call (.Name x p) [] [] pos) (tMkO0 C sp) := by
  intro pins s σ H Q I h
  obtain ⟨nm, q, N, bs, bm, sn, sub, ab, col, dd, k0, k1, k2, k3, k5, hC, hbm⟩ := T.cls
  refine wpAny_Call_Name_kw (ld_glob I hg hm ?_ hdb)
  refine PySem.W.callWith_K0 I.kIn T.kC ?_
  show wpAny _ _ (call (.ref C) []) _ _ _
  obtain ⟨hp, g, dr, tk, os⟩ := s
  have hsz : hp.objs.size ≤ hp.objs.size + 1 := Nat.le_succ _
  have hn : H (hp.objs.size + 1) = none := I.hok.fresh hsz
  have hq := h (hp.objs.size + 1) hn
  have kk : ∀ b o, hp.get? b = some o → ((hp.push (PySem.W.kdv_tup [])).push (PySem.HandSPX.excO C hp.objs.size)).get? b = some o := fun b o e => Heap.get?_push_of_some _ (Heap.get?_push_of_some _ e)
  have hget : ((hp.push (PySem.W.kdv_tup [])).push (PySem.HandSPX.excO C hp.objs.size)).get? (hp.objs.size + 1) = some (PySem.HandSPX.excO C hp.objs.size) := by heap_get
  have I2 : Inv X pins σ (upd H (hp.objs.size + 1) (exo (hp.objs.size + 1) C none)) ⟨(hp.push (PySem.W.kdv_tup [])).push (PySem.HandSPX.excO C hp.objs.size), g, dr, tk, os⟩ :=
    I.laid (t' := tk) (a := hp.objs.size + 1) (o := exo (hp.objs.size + 1) C none) (h' := (hp.push (PySem.W.kdv_tup [])).push (PySem.HandSPX.excO C hp.objs.size)) kk hsz (exo_ok hget)
  have r2 : Vals [V.ref (hp.objs.size + 1)] [Value.ref (hp.objs.size + 1)] := .cons rfl .nil
  have hl : ([Value.ref (hp.objs.size + 1)] ++ ([] : List Value)).length = ps.length := by
    have e := r2.length
    rw [F1.len _ _ _ _ hq] at e
    exact e.symm
  refine wpAny_call (PySem.HandSPX.call_own F.excBase_ValueError (fun Y => PySem.HandSPX.refsVE_contains Y bm hbm) (I.kIn _ _ hC) (PySem.W.looks_findIn I.kIn iC) (fun self => PySem.W.bind_fn I.kIn self tI) (by show 0 ≤ sizeLine; exact Nat.zero_le _)
    (codeAny_mono (F1.run _ X.stack _ _ ⟨[Value.ref (hp.objs.size + 1)], []⟩ ([Value.ref (hp.objs.size + 1)] ++ []) _ _ (fun _ _ _ => False) (hr.make C [] []) (I2.env0.make C [] []) (hb _ [Value.ref (hp.objs.size + 1)] I2.kIn hl) r2 hq) fun r s' hq' => ?_))
  cases r with
  | error er => exact hx pins σ _ _ er s' I2 hq'
  | ok fl =>
    cases fl with
    | ret u =>
      obtain ⟨v, H2, os2, bare2, un2, hok2, rv, ev, ea, q2⟩ := hq'
      subst ev
      obtain ⟨h2, g2, d2, t2, os'⟩ := s'
      exact ⟨rv, mk_endN (raises_own T.exC T.tyC) I hsz kk un2 hok2 os2 bare2 ea q2⟩
    | next => exact False.elim hq'
    | brk => exact False.elim hq'
    | cont => exact False.elim hq'
end L2
namespace DL
open PySem PySem.Spec L2
/-- self.f1 = p1; self.f2 = p2; .. (the names fs, the first one first) -/
def spInit (K : PySem.W.Frag) (fs : List Str) : Sp := fun vs H Q _ => ∃ (a C : Addr) (xs : List V), vs = .ref a :: xs ∧ xs.length = fs.length ∧ OexC K C ∧ (∀ f ∈ fs, PySem.W.findIn K (.ref C) f = some none) ∧ H a = some (exo a C none) ∧
  ∀ d, H d = none → d ≠ a → Q .non (upd (upd H d (exd d (fs.zip xs).reverse)) a (exo a C (some d)))
def spInit0 (K : PySem.W.Frag) : Sp := fun vs H Q _ => ∃ (a C : Addr), vs = [.ref a] ∧ OexC K C ∧ H a = some (exo a C none) ∧ Q .non H
theorem spInit_len {K : PySem.W.Frag} {fs ps : List Str} (h : ps.length = fs.length + 1) : ∀ vs H Q E, spInit K fs vs H Q E → vs.length = ps.length := fun vs H Q E ⟨a, C, xs, e, l, _⟩ => by
  subst e
  rw [List.length_cons, l, h]
theorem spInit0_len {K : PySem.W.Frag} {ps : List Str} (h : ps.length = 1) : ∀ vs H Q E, spInit0 K vs H Q E → vs.length = ps.length := fun vs H Q E ⟨a, C, e, _⟩ => by
  subst e
  rw [h]
  rfl
/-- one field -/
theorem init1 {K : PySem.W.Frag} {f : Str} {vs : List V} {H : Hp} {Q : VK} {E : XK} (h : spInit K [f] vs H Q E) : tOst K f (tVar 0) (tVar 1) { nx := fun _ H' => Q .non H', rt := Q } (L2.start [("self" : Str), f] vs) H := by
  obtain ⟨a, C, xs, rfl, hl, T, hno, ha, k⟩ := h
  match xs, hl with
  | [x], _ => exact ⟨x, rfl, .ref a, rfl, a, C, rfl, T, hno f List.mem_cons_self, .inl ⟨ha, fun d hd hne => k d hd hne⟩⟩
/-- two fields -/
theorem init2 {K : PySem.W.Frag} {f g : Str} {vs : List V} {H : Hp} {Q : VK} {E : XK} (h : spInit K [f, g] vs H Q E) : tSeq (tOst K f (tVar 0) (tVar 1)) (tOst K g (tVar 0) (tVar 2)) { nx := fun _ H' => Q .non H', rt := Q } (L2.start [("self" : Str), f, g] vs) H := by
  obtain ⟨a, C, xs, rfl, hl, T, hno, ha, k⟩ := h
  match xs, hl with
  | [x, y], _ =>
    refine ⟨x, rfl, .ref a, rfl, a, C, rfl, T, hno f List.mem_cons_self, .inl ⟨ha, fun d hd hne => ?_⟩⟩
    refine ⟨y, rfl, .ref a, rfl, a, C, rfl, T, hno g (List.mem_cons_of_mem _ List.mem_cons_self), .inr ⟨d, [(f, x)], upd_same, by rw [upd_ne hne, upd_same], by show 1 ≤ 900; decide, ?_⟩⟩
    have e : upd (upd (upd H d (exd d [(f, x)])) a (exo a C (some d))) d (exd d ((g, y) :: [(f, x)])) = upd (upd H d (exd d (([f, g]).zip [x, y]).reverse)) a (exo a C (some d)) := by
      funext b
      unfold upd
      by_cases h1 : b = d
      · subst h1
        rw [if_pos rfl, if_neg hne, if_pos rfl] <;> rfl
      · rw [if_neg h1]
        by_cases h2 : b = a
        · rw [if_pos h2, if_pos h2]
        · rw [if_neg h2, if_neg h2, if_neg h1, if_neg h1]
    have k' := k d hd hne
    rw [← e] at k'
    exact k'
def sRaise (code : Nat) (fs : List Str) (n : DS → ER (List D)) : DS → SR := eb n fun ds s => match frzs fuel s ds with
  | some (xs, s') => if xs.length = fs.length then .exc code (fs.zip xs).reverse s' else .no
  | none => .no
def sRaise0 (code : Nat) : DS → SR := fun s => .exc code [] s
section
variable {X : Cx} {c : DC} {x : Str} {C fI : Addr} {k : Nat} {fd : FuncData} {ps fs : List Str} {p pos rpos : Pos} {e : Expr} {es : List Expr} {n : DS → ER (List D)} {code : Nat}
theorem paired_zip {K : PySem.W.Frag} {G : Hp} : ∀ {fs : List Str} {vs : List V} {ds : List PD}, Paired (Rp K G) vs ds → Paired (fun (p : Str × V) (q : Str × PD) => p.1 = q.1 ∧ Rp K G p.2 q.2) (fs.zip vs) (fs.zip ds)
  | [], _, _, _ => by simp; exact .nil
  | f :: fs, _, _, .nil => .nil
  | f :: fs, _, _, .cons r t => .cons ⟨rfl, r⟩ (paired_zip t)
theorem paired_rev {α β : Type} {R : α → β → Prop} {xs : List α} {ys : List β} (h : Paired R xs ys) : Paired R xs.reverse ys.reverse := by
  induction h with
  | nil => exact .nil
  | cons r _ ih => rw [List.reverse_cons, List.reverse_cons]; exact paired_append ih (.cons r .nil)
theorem ds_raise (hc : X.calm = true) (tk : Takes X c.W) (T : OexC X.K C) (iC : PySem.W.findIn X.K (.ref C) "__init__" = some (some (.ref fI))) (tI : PySem.W.typeIn X.K (.ref fI) = some (.type "function")) (hno : ∀ f ∈ fs, PySem.W.findIn X.K (.ref C) f = some none)
    (F1 : FnOk X.prog X.w X.K X.mg X.base (L2.CX X.prog X.w) k fI fd ps (spInit X.K fs)) (hr : Room (k + 1) X.A) (hb : Binds X.K fd ps []) (hm : X.mg x = some (.ref C)) (hC : c.cx code = C) (hfl : fs.length ≤ 1000) (ha : DA X c (e :: es) n) (hg : Gl X x := by rfl)
    (hdb : (x == ("__debug__" : Str)) = false := by decide) (he : starEach (e :: es) X.env = (false, eval e X.env) :: starEach es X.env := by rfl) (hpl : (backTo pos (starEach es X.env)).any (·.1) = false := by rfl) :
    DSt X c (.Raise (some (.Call (.Name x p) (e :: es) [] pos)) none rpos) (sRaise code fs n) := ps_imp (ps_raise hc tk (pmk_oex T iC tI F1 hr hb .nil passL hg hm ha hdb he hpl)) fun D σ H h => by
  obtain ⟨G, φ, s, S, p⟩ := h
  refine (eb_bind (rel := RDs X.K) S p).mono fun vs H1 ⟨G1, φ1, s1, ds, g1, S1, r1, p1⟩ => ?_
  cases q : frzs fuel s1 ds with
  | none => rw [q] at p1; exact p1.elim
  | some z =>
    obtain ⟨xs, s2⟩ := z
    rw [q] at p1
    dsimp only at p1
    obtain ⟨G2, g2, S2, h2⟩ := frzs_ok fuel ds S1 q
    have r2 := h2 vs r1
    by_cases hl : xs.length = fs.length
    · rw [if_pos hl] at p1
      refine ⟨by rw [paired_length r2, hl]; exact hfl, fun a haN => ?_⟩
      rw [List.append_nil]
      refine ⟨a, C, vs, rfl, by rw [paired_length r2, hl], T, hno, upd_same, fun d hd hne => ?_⟩
      have hd1 : H1 d = none := by rw [upd_ne hne] at hd; exact hd
      refine ⟨rfl, d, (fs.zip vs).reverse, upd_same, by rw [upd_ne hne, upd_same], hd1, ?_⟩
      have eH : upd (del (upd (upd (upd H1 a (exo a C none)) d (exd d (fs.zip vs).reverse)) a (exo a C (some d))) a) d (.xd (fs.zip vs).reverse) = upd H1 d (.xd (fs.zip vs).reverse) := by
        funext b
        unfold upd del
        by_cases h1 : b = d
        · rw [if_pos h1, if_pos h1]
        · rw [if_neg h1, if_neg h1]
          by_cases h2 : b = a
          · rw [if_pos h2, h2, haN]
          · rw [if_neg h2]
            show (if b = a then some (exo a C (some d)) else if b = d then some (exd d (fs.zip vs).reverse) else if b = a then some (exo a C none) else H1 b) = H1 b
            rw [if_neg h2, if_neg h1, if_neg h2]
      rw [eH]
      obtain ⟨S3, g3⟩ := S2.lay (o := .xd (fs.zip vs).reverse) hd1
      refine p1 (.ref C) (some d) σ _ φ1 _ (g2.trans g3) S3 ⟨by rw [hC], .inr ⟨d, _, rfl, upd_same, paired_rev (paired_zip (Rp.ups g3.g _ r2))⟩⟩
    · rw [if_neg hl] at p1
      exact p1.elim
theorem ds_raise0 (hc : X.calm = true) (tk : Takes X c.W) (T : OexC X.K C) (iC : PySem.W.findIn X.K (.ref C) "__init__" = some (some (.ref fI))) (tI : PySem.W.typeIn X.K (.ref fI) = some (.type "function"))
    (F1 : FnOk X.prog X.w X.K X.mg X.base (L2.CX X.prog X.w) k fI fd ps (spInit0 X.K)) (hr : Room (k + 1) X.A) (hb : Binds X.K fd ps []) (hm : X.mg x = some (.ref C)) (hC : c.cx code = C) (hg : Gl X x := by rfl)
    (hdb : (x == ("__debug__" : Str)) = false := by decide) :
    DSt X c (.Raise (some (.Call (.Name x p) [] [] pos)) none rpos) (sRaise0 code) := ps_imp (ps_raise hc tk (pmk_oex0 T iC tI F1 hr hb passL hg hm hdb)) fun D σ H h => by
  obtain ⟨G, φ, s, S, p⟩ := h
  intro a haN
  refine ⟨a, C, rfl, T, upd_same, rfl, upd_same, ?_⟩
  have eH : del (upd H a (exo a C none)) a = H := by
    funext b
    unfold upd del
    by_cases h2 : b = a
    · rw [if_pos h2, h2, haN]
    · rw [if_neg h2]
      show (if b = a then some (exo a C none) else H b) = H b
      rw [if_neg h2]
  rw [eH]
  exact p (.ref C) none σ G φ H Gr.refl S ⟨by rw [hC], .inl ⟨rfl, rfl⟩⟩
end

def exitS (i : Nat) (s : DS) : DS := { s with ex := none, env := s.env.set i none }
def outAs (i : Nat) : SR → SR
  | .nx s => .nx (exitS i s)
  | .rt d s => .rt d (exitS i s)
  | .bk s => .bk (exitS i s)
  | .ct s => .ct (exitS i s)
  | _ => .no
def outOnly : SR → SR
  | .exc _ _ _ => .no
  | o => o
/-- isA e: is the class e caught? (none: not told) -/
def sTryAs (isA : Nat → Option Bool) (i : Nat) (body suite : DS → SR) : DS → SR := fun s => match body s with
  | .exc e fs s' => match isA e with
    | some true => if i < s'.env.length then outAs i (suite { s' with ex := some (e, fs), env := s'.env.set i none }) else .no
    | some false => .exc e fs s'
    | none => .no
  | o => o
def sTry (isA : Nat → Option Bool) (body suite : DS → SR) : DS → SR := fun s => match body s with
  | .exc e fs s' => match isA e with
    | some true => outOnly (suite s')
    | some false => .exc e fs s'
    | none => .no
  | o => o
def DC.suite (c : DC) (i : Nat) (a : Addr) (cls : Value) (d : Option Addr) : DC := { c with hx := some (i, a, cls, d), W := fun _ _ _ _ => False }
section
variable {K : PySem.W.Frag} {c : DC} {G : Hp} {φ : List Addr} {σ : St} {H : Hp} {s : DS}
theorem Sim.withW (S : Sim K c G φ s σ H) (W : WX) : Sim K { c with W := W } G φ s σ H := ⟨S.gh, S.rh, S.fr, S.len, S.env, S.clen, fun n a x h1 h2 => by
  have h := S.cell n a x h1 h2
  cases x with
  | lst l => exact h
  | froz d => exact h, S.cR, S.cH, S.nd, S.ex⟩
theorem Sim.ofW {W : WX} (S : Sim K { c with W := W } G φ s σ H) : Sim K c G φ s σ H := ⟨S.gh, S.rh, S.fr, S.len, S.env, S.clen, fun n a x h1 h2 => by
  have h := S.cell n a x h1 h2
  cases x with
  | lst l => exact h
  | froz d => exact h, S.cR, S.cH, S.nd, S.ex⟩
theorem Sim.toSuite (S : Sim K c G φ s σ H) {i : Nat} {a : Addr} {cls : Value} {d : Option Addr} {e : Nat} {fs : Fields} (hi : i < s.env.length) (xr : XRp K c.cx G cls d e fs) :
    Sim K (c.suite i a cls d) G φ { s with ex := some (e, fs), env := s.env.set i none } (σ.set i (some (.ref a))) H := by
  refine ⟨S.gh, S.rh, S.fr, by simp [S.len], fun j x h => ?_, S.clen, fun n a x h1 h2 => ?_, S.cR, S.cH, S.nd, fun e' fs' q => ?_⟩
  · have h' : (s.env.set i none)[j]? = some (some x) := h
    by_cases hj : i = j
    · subst hj
      rw [List.getElem?_set_self hi] at h'
      cases Option.some.inj h'
    · rw [List.getElem?_set_ne hj] at h' ⊢
      exact S.env j x h'
  · have h := S.cell n a x h1 h2
    cases x with
    | lst l => exact h
    | froz d => exact h
  · have q' : (e, fs) = (e', fs') := Option.some.inj q
    cases q'
    exact ⟨i, a, cls, d, rfl, List.getElem?_set_self (by rw [← S.len]; exact hi), xr⟩
theorem Sim.ofSuite {i : Nat} {a : Addr} {cls : Value} {d : Option Addr} (S : Sim K (c.suite i a cls d) G φ s σ H) : Sim K c G φ (exitS i s) (σ.set i none) H := by
  refine ⟨S.gh, S.rh, S.fr, by show (s.env.set i none).length = _; simp [S.len], fun j x h => ?_, S.clen, fun n a x h1 h2 => ?_, S.cR, S.cH, S.nd, fun e' fs' q => by cases q⟩
  · have h' : (s.env.set i none)[j]? = some (some x) := h
    by_cases hj : i = j
    · subst hj
      have hl : i < s.env.length := by
        have := (List.getElem?_eq_some_iff.mp h').1
        simpa using this
      rw [List.getElem?_set_self hl] at h'
      cases Option.some.inj h'
    · rw [List.getElem?_set_ne hj] at h' ⊢
      exact S.env j x h'
  · have h := S.cell n a x h1 h2
    cases x with
    | lst l => exact h
    | froz d => exact h
end
section
variable {X : Cx} {c : DC} {x n : Str} {cV : Value} {i : Nat} {body suite : List Stmt} {b₀ : Stmt} {np pos pos' : Pos} {mbd ms : DS → SR} {isA : Nat → Option Bool}
theorem ds_tryAs (hisA : ∀ e b, isA e = some b → PySem.W.exmOne X.K (.ref (c.cx e)) cV = some b) (hcalm : Calm c) (hN : X.N.Nodup) (hcls : Names X x cV) (tk : Takes X c.W)
    (hb : ∀ (W : WX) (pn : List (Addr × Obj)) (xe : Value → Shared → Prop), Takes (X.tr pn xe) W → PassesOwn (model X.prog X.w) X.A X.env xe → DSs (X.tr pn xe) { c with W := W } body mbd)
    (hsu : ∀ (a : Addr) (oe : Obj) (cls : Value) (d : Option Addr) (pn : List (Addr × Obj)), Zc cls d oe → (∃ vs, oe.data = .fields vs) → DSs (X.suite a ((a, oe) :: pn)) (c.suite i a cls d) (b₀ :: suite) ms)
    (hs : X.stack = X.env :: X.outer := by rfl) (hf : X.env.frame = some X.env.locals := by rfl) (hi : X.N[i]? = some n := by rfl) (hln : X.env.kindOf n = some .local := by rfl) :
    DSt X c (.Try body [.ExceptHandler (some (.Name x np)) (some n) (b₀ :: suite) pos'] [] [] pos) (sTryAs isA i mbd ms) := ps_imp (ps_try_as (tb := fun W => rdS X.K { c with W := W } mbd) (ts := fun a cls d => rdS X.K (c.suite i a cls d) ms) hs hf hN hi hln hcls tk hb hsu) fun D σ H h => by
  obtain ⟨G, φ, s, S, p⟩ := h
  refine ⟨G, φ, s, S.withW _, ?_⟩
  unfold sTryAs at p
  cases q : mbd s with
  | nx s' => rw [q] at p; exact fun σ' G' φ' H' g S' => p σ' G' φ' H' g S'.ofW
  | rt d s' => rw [q] at p; exact fun v σ' G' φ' H' g S' r => p v σ' G' φ' H' g S'.ofW r
  | bk s' => rw [q] at p; exact fun σ' G' φ' H' g S' => p σ' G' φ' H' g S'.ofW
  | ct s' => rw [q] at p; exact fun σ' G' φ' H' g S' => p σ' G' φ' H' g S'.ofW
  | no => rw [q] at p; exact p
  | exc e fs s' =>
    rw [q] at p
    dsimp only at p
    intro cls dd σ' G' φ' H' g S' xr
    have hc : cls = .ref (c.cx e) := xr.1
    cases q2 : isA e with
    | none => rw [q2] at p; exact p.elim
    | some b =>
      rw [q2] at p
      refine ⟨b, by rw [hc]; exact hisA e b q2, fun hbt a haN => ?_, fun hbf => ?_⟩
      · subst hbt
        dsimp only at p
        by_cases hi2 : i < s'.env.length
        · rw [if_pos hi2] at p
          refine ⟨G', φ', _, S'.ofW.toSuite hi2 xr, ?_⟩
          cases q3 : ms { s' with ex := some (e, fs), env := s'.env.set i none } with
          | nx s2 => rw [q3] at p; exact fun σ2 G2 φ2 H2 g2 S2 => p _ G2 φ2 H2 (g.trans g2) S2.ofSuite
          | rt d s2 => rw [q3] at p; exact fun v σ2 G2 φ2 H2 g2 S2 r => p v _ G2 φ2 H2 (g.trans g2) S2.ofSuite r
          | bk s2 => rw [q3] at p; exact fun σ2 G2 φ2 H2 g2 S2 => p _ G2 φ2 H2 (g.trans g2) S2.ofSuite
          | ct s2 => rw [q3] at p; exact fun σ2 G2 φ2 H2 g2 S2 => p _ G2 φ2 H2 (g.trans g2) S2.ofSuite
          | exc e2 fs2 s2 => rw [q3] at p; exact p.elim
          | no => rw [q3] at p; exact p.elim
        · rw [if_neg hi2] at p
          exact p.elim
      · subst hbf
        exact p cls dd σ' G' φ' H' g S'.ofW xr
theorem ds_try (hisA : ∀ e b, isA e = some b → PySem.W.exmOne X.K (.ref (c.cx e)) cV = some b) (hcls : Names X x cV) (tk : Takes X c.W)
    (hb : ∀ (W : WX) (pn : List (Addr × Obj)) (xe : Value → Shared → Prop), Takes (X.tr pn xe) W → PassesOwn (model X.prog X.w) X.A X.env xe → DSs (X.tr pn xe) { c with W := W } body mbd)
    (hsu : ∀ (a : Addr) (oe : Obj) (cls : Value) (d : Option Addr) (pn : List (Addr × Obj)), Zc cls d oe → (∃ vs, oe.data = .fields vs) → DSs (X.suite a ((a, oe) :: pn)) { c with W := fun _ _ _ _ => False } (b₀ :: suite) ms)
    (hs : X.stack = X.env :: X.outer := by rfl) (hf : X.env.frame = some X.env.locals := by rfl) :
    DSt X c (.Try body [.ExceptHandler (some (.Name x np)) none (b₀ :: suite) pos'] [] [] pos) (sTry isA mbd ms) := ps_imp (ps_try_only (tb := fun W => rdS X.K { c with W := W } mbd) (ts := fun a cls d => rdS X.K { c with W := fun _ _ _ _ => False } ms) hs hf hcls tk hb hsu) fun D σ H h => by
  obtain ⟨G, φ, s, S, p⟩ := h
  refine ⟨G, φ, s, S.withW _, ?_⟩
  unfold sTry at p
  cases q : mbd s with
  | nx s' => rw [q] at p; exact fun σ' G' φ' H' g S' => p σ' G' φ' H' g S'.ofW
  | rt d s' => rw [q] at p; exact fun v σ' G' φ' H' g S' r => p v σ' G' φ' H' g S'.ofW r
  | bk s' => rw [q] at p; exact fun σ' G' φ' H' g S' => p σ' G' φ' H' g S'.ofW
  | ct s' => rw [q] at p; exact fun σ' G' φ' H' g S' => p σ' G' φ' H' g S'.ofW
  | no => rw [q] at p; exact p
  | exc e fs s' =>
    rw [q] at p
    dsimp only at p
    intro cls dd σ' G' φ' H' g S' xr
    have hc : cls = .ref (c.cx e) := xr.1
    cases q2 : isA e with
    | none => rw [q2] at p; exact p.elim
    | some b =>
      rw [q2] at p
      refine ⟨b, by rw [hc]; exact hisA e b q2, fun hbt a haN => ?_, fun hbf => ?_⟩
      · subst hbt
        dsimp only at p
        refine ⟨G', φ', s', S'.ofW.withW _, ?_⟩
        cases q3 : ms s' with
        | nx s2 => rw [q3] at p; exact fun σ2 G2 φ2 H2 g2 S2 => p σ2 G2 φ2 H2 (g.trans g2) S2.ofW
        | rt d s2 => rw [q3] at p; exact fun v σ2 G2 φ2 H2 g2 S2 r => p v σ2 G2 φ2 H2 (g.trans g2) S2.ofW r
        | bk s2 => rw [q3] at p; exact fun σ2 G2 φ2 H2 g2 S2 => p σ2 G2 φ2 H2 (g.trans g2) S2.ofW
        | ct s2 => rw [q3] at p; exact fun σ2 G2 φ2 H2 g2 S2 => p σ2 G2 φ2 H2 (g.trans g2) S2.ofW
        | exc e2 fs2 s2 => rw [q3] at p; exact p.elim
        | no => rw [q3] at p; exact p.elim
      · subst hbf
        exact p cls dd σ' G' φ' H' g S'.ofW xr
/-- n.f in the suite -/
def mXf (code : Nat) (f : Str) : DS → ER D := fun s => match s.ex with
  | some (e, fs) => if e = code then match fs.lookup f with
      | some d => .ok (.p d) s
      | none => .no
    else .no
  | none => .no
theorem lookup_paired {K : PySem.W.Frag} {G : Hp} : ∀ {vs : List (Str × V)} {fs : Fields} {f : Str} {d : PD}, Paired (fun (p : Str × V) (q : Str × PD) => p.1 = q.1 ∧ Rp K G p.2 q.2) vs fs → fs.lookup f = some d → ∃ v, vs.lookup f = some v ∧ Rp K G v d
  | _, _, f, d, .nil, e => by cases e
  | _, _, f, d, @Paired.cons _ _ _ (a, v) (b, d') vs fs ⟨r1, r2⟩ t, e => by
    have r1' : a = b := r1
    subst r1'
    unfold List.lookup at e ⊢
    by_cases h : f == a
    · rw [h] at e ⊢
      cases Option.some.inj e
      exact ⟨v, rfl, r2⟩
    · have h' : (f == a) = false := by simpa using h
      rw [h'] at e ⊢
      exact lookup_paired t e
theorem de_xf {a C : Addr} {oe : Obj} {cls : Value} {d : Option Addr} {pn : List (Addr × Obj)} {f : Str} {code : Nat} {p2 : Pos} (T : XfC X.K C) (hno : PySem.W.findIn X.K (.ref C) f = some none) (hz : Zc cls d oe) (hf : ∃ vs, oe.data = .fields vs) (hC : c.cx code = C)
    (hN : X.N[i]? = some n := by rfl) (hv : Vis X.env.scope n := by first | exact Or.inl rfl | exact Or.inr (Or.inl rfl) | exact Or.inr (Or.inr rfl)) (hd : (n == ("__debug__" : Str)) = false := by decide)
    (hcd : (n == ("__classdict__" : Str)) = false := by decide) (hb : attributeBase (.Name n p2) f X.env (eval (.Name n p2) X.env) = eval (.Name n p2) X.env := by rfl) :
    DE (X.suite a ((a, oe) :: pn)) (c.suite i a cls d) (.Attribute (.Name n p2) f pos) (mXf code f) := pe_imp (pe_xf T hno hz hf (pe_var (X := X.suite a ((a, oe) :: pn)) hN hv hd hcd) hb) fun σ H Q h => by
  obtain ⟨G, φ, s, S, p⟩ := h
  unfold mXf at p
  cases q : s.ex with
  | none => rw [q] at p; exact p.elim
  | some z =>
    obtain ⟨e, fs⟩ := z
    rw [q] at p
    dsimp only at p
    by_cases he : e = code
    · rw [if_pos he] at p
      subst he
      cases q2 : fs.lookup f with
      | none => rw [q2] at p; exact p.elim
      | some x =>
        rw [q2] at p
        obtain ⟨j, a', cls', d', h1, h2, h3, h4⟩ := S.ex e fs q
        cases (Option.some.inj h1)
        refine ⟨.ref a, h2, rfl, by rw [h3]; exact congrArg Value.ref hC, ?_⟩
        rcases h4 with ⟨_, h4⟩ | ⟨da, vs, h4, h5, h6⟩
        · subst h4
          cases q2
        · obtain ⟨v, h7, h8⟩ := lookup_paired h6 q2
          exact ⟨da, vs, v, h4, S.gh _ _ h5, h7, Po.ok p Gr.refl S h8⟩
    · rw [if_neg he] at p
      exact p.elim
end
end DL
namespace DL
open PySem PySem.Spec L2
def oexB (K : PySem.W.Frag) (C : Addr) : Bool := (match K.lookup C with
  | some ⟨.type "type", _, .cls cd, sl⟩ => (match cd.mro, sl.toList with
    | .ref C' :: bm, [_, _, _, _, some (.builtin n), _] => C' == C && n == "ValueError.__new__" && !cd.hasDel && cd.hasDict && PySem.HandSPX.refsVE bm
    | _, _ => false)
  | _ => false) && (He.eqO (PySem.W.findIn K (.ref C) "__setattr__") (some (some (.builtin "object.__setattr__"))) && (decide (PySem.W.subIn K (.ref C) (.type "BaseException") = some true) && (decide (PySem.W.typeIn K (.ref C) = some (.type "type")) && PySem.W.keepIn K (.ref C))))
theorem oexB_ok {K : PySem.W.Frag} {C : Addr} (h : oexB K C = true) : OexC K C := by
  obtain ⟨q, h⟩ := He.ba h
  obtain ⟨h1, h⟩ := He.ba h
  obtain ⟨h2, h⟩ := He.ba h
  obtain ⟨h3, h4⟩ := He.ba h
  refine ⟨?_, He.eqO_ok h1, of_decide_eq_true h2, of_decide_eq_true h3, h4⟩
  split at q
  · rename_i dd cd sl ho
    split at q
    · rename_i C' bm k0 k1 k2 k3 n k5 hm hs
      simp only [Bool.and_eq_true, beq_iff_eq, Bool.not_eq_true'] at q
      obtain ⟨⟨⟨⟨rfl, rfl⟩, hdel⟩, hdic⟩, hr⟩ := q
      obtain ⟨nm, bs, mro, ns, qn, hd, sn, sub, ab, col, del⟩ := cd
      dsimp only at hm hdel hdic
      subst hm hdel hdic
      have hsl : sl = #[k0, k1, k2, k3, some (.builtin "ValueError.__new__"), k5] := by
        obtain ⟨l⟩ := sl
        simp only at hs
        rw [hs]
      subst hsl
      exact ⟨nm, qn, ns, bs, bm, sn, sub, ab, col, dd, k0, k1, k2, k3, k5, ho, hr⟩
    · cases q
  · cases q
mutual
def rpB (K : PySem.W.Frag) : PD → Value → Bool
  | .non, u => (match u with
    | .none => true
    | _ => false)
  | .bl b, u => (match u with
    | .bool c => b == c
    | _ => false)
  | .int i, u => (match u with
    | .int j _ => decide (i = j)
    | _ => false)
  | .str x, u => (match u with
    | .str y _ => decide (x = y)
    | _ => false)
  | .tup ds, u => (match u with
    | .ref a => (match K.lookup a with
      | some ⟨.type c, _, .seq its _, _⟩ => decide (c = "tuple") && (decide (its.size ≤ sizeLine) && rpBs K ds its.toList)
      | _ => false)
    | _ => false)
  | .lst ds, u => (match u with
    | .ref a => (match K.lookup a with
      | some ⟨.type c, none, .seq its _, _⟩ => decide (c = "list") && (decide (its.size ≤ sizeLine) && rpBs K ds its.toList)
      | _ => false)
    | _ => false)
  | .obj _ _, _ => false
def rpBs (K : PySem.W.Frag) : List PD → List Value → Bool
  | [], us => us.isEmpty
  | d :: ds, us => (match us with
    | u :: us => rpB K d u && rpBs K ds us
    | [] => false)
end
mutual
theorem rpB_ok {K : PySem.W.Frag} : ∀ (d : PD) (u : Value), rpB K d u = true → ∃ v, RelV v u ∧ ∀ G, Rp K G v d
  | .non, u, h => by
    simp only [rpB] at h
    cases u with
    | none => exact ⟨.non, rfl, fun _ => .non⟩
    | _ => cases h
  | .bl b, u, h => by
    simp only [rpB] at h
    cases u with
    | bool c =>
      have e : b = c := eq_of_beq h
      subst e
      exact ⟨.bl b, rfl, fun _ => .bl _⟩
    | _ => cases h
  | .int i, u, h => by
    simp only [rpB] at h
    cases u with
    | int j t =>
      have e : i = j := of_decide_eq_true h
      subst e
      exact ⟨.int i, ⟨t, rfl⟩, fun _ => .int _⟩
    | _ => cases h
  | .str x, u, h => by
    simp only [rpB] at h
    cases u with
    | str y t =>
      have e : x = y := of_decide_eq_true h
      subst e
      exact ⟨.str x, ⟨t, rfl⟩, fun _ => .str _⟩
    | _ => cases h
  | .tup ds, u, h => by
    simp only [rpB] at h
    cases u with
    | ref a =>
      dsimp only at h
      split at h
      · rename_i c od its n sl ho
        obtain ⟨h1, h2⟩ := He.ba h
        obtain ⟨h3, h4⟩ := He.ba h2
        obtain ⟨vs, r, p⟩ := rpBs_ok ds _ h4
        refine ⟨.ref a, rfl, fun G => .tup (.inr ⟨_, its, n, ho, congrArg Value.type (of_decide_eq_true h1), rfl, of_decide_eq_true h3, r⟩) (p G)⟩
      · cases h
    | _ => cases h
  | .lst ds, u, h => by
    simp only [rpB] at h
    cases u with
    | ref a =>
      dsimp only at h
      split at h
      · rename_i c its n sl ho
        obtain ⟨h1, h2⟩ := He.ba h
        obtain ⟨h3, h4⟩ := He.ba h2
        obtain ⟨vs, r, p⟩ := rpBs_ok ds _ h4
        refine ⟨.ref a, rfl, fun G => .lst (.inr ⟨_, its, n, ho, congrArg Value.type (of_decide_eq_true h1), rfl, rfl, of_decide_eq_true h3, r⟩) (p G)⟩
      · cases h
    | _ => cases h
  | .obj _ _, _, h => by
    simp only [rpB] at h
    cases h
theorem rpBs_ok {K : PySem.W.Frag} : ∀ (ds : List PD) (us : List Value), rpBs K ds us = true → ∃ vs, Vals vs us ∧ ∀ G, Paired (Rp K G) vs ds
  | [], us, h => by
    simp only [rpBs] at h
    cases us with
    | nil => exact ⟨[], .nil, fun _ => .nil⟩
    | cons _ _ => cases h
  | d :: ds, us, h => by
    simp only [rpBs] at h
    cases us with
    | nil => cases h
    | cons u us =>
      obtain ⟨h1, h2⟩ := He.ba h
      obtain ⟨v, r, p⟩ := rpB_ok d u h1
      obtain ⟨vs, rs, ps⟩ := rpBs_ok ds us h2
      exact ⟨v :: vs, .cons r rs, fun G => .cons (p G) (ps G)⟩
end
/-- the module's name x holds an object, which is d -/
def conB (K : PySem.W.Frag) (x : Str) (d : PD) : Bool := He.eqO (PySem.W.nsIn K mainGlobals x) (some (some (.ref (He.ga K x)))) && rpB K d (.ref (He.ga K x))
theorem conB_ok {K : PySem.W.Frag} {h : Heap} {mg : Str → Option Value} (X : K.In h) (G : h.Ns mainGlobals mg) {x : Str} {d : PD} (c : conB K x d = true) : mg x = some (.ref (He.ga K x)) ∧ ∀ G, Rp K G (.ref (He.ga K x)) d := by
  obtain ⟨h1, h2⟩ := He.ba c
  refine ⟨PySem.W.mg_of X G (He.eqO_ok h1), fun G => ?_⟩
  obtain ⟨v, r, p⟩ := rpB_ok d _ h2
  have e : v = .ref (He.ga K x) := by
    cases v with
    | ref b =>
      have e2 : Value.ref (He.ga K x) = .ref b := r
      cases e2
      rfl
    | int i => obtain ⟨t, e2⟩ := r; cases e2
    | str i => obtain ⟨t, e2⟩ := r; cases e2
    | byt i => obtain ⟨t, e2⟩ := r; cases e2
    | flt i => obtain ⟨t, e2⟩ := r; cases e2
    | _ => cases (show _ = _ from r)
  subst e
  exact p G
/-- the module's name x is a number, a text, .. -/
def valB (K : PySem.W.Frag) (x : Str) (d : PD) : Bool := match PySem.W.nsIn K mainGlobals x with
  | some (some u) => rpB K d u
  | _ => false
theorem valB_ok {K : PySem.W.Frag} {h : Heap} {mg : Str → Option Value} (X : K.In h) (G : h.Ns mainGlobals mg) {x : Str} {d : PD} (c : valB K x d = true) : ∃ u v, mg x = some u ∧ RelV v u ∧ ∀ G, Rp K G v d := by
  unfold valB at c
  split at c
  · rename_i u hu
    obtain ⟨v, r, p⟩ := rpB_ok d u c
    exact ⟨u, v, PySem.W.mg_of X G hu, r, p⟩
  · cases c
def bltB (K : PySem.W.Frag) (x : Str) (b : String) : Bool := He.eqO (PySem.W.nsIn K mainGlobals x) (some (some (.builtin b)))
/-- an own exception class: its maker, the fields that its class lacks -/
def excB (K : PySem.W.Frag) (x : Str) (fs : List Str) : Bool := oexB K (He.ga K x) && (He.eqO (PySem.W.findIn K (.ref (He.ga K x)) "__init__") (some (some (.ref (He.ma K (He.ga K x) "__init__")))) && (decide (PySem.W.typeIn K (.ref (He.ma K (He.ga K x) "__init__")) = some (.type "function")) &&
  ((fs.all fun f => He.eqO (PySem.W.findIn K (.ref (He.ga K x)) f) (some none)) && xfB K (He.ga K x))))
structure ExcT (K : PySem.W.Frag) (x : Str) (fs : List Str) : Prop where
  ox : OexC K (He.ga K x)
  i : PySem.W.findIn K (.ref (He.ga K x)) "__init__" = some (some (.ref (He.ma K (He.ga K x) "__init__")))
  ti : PySem.W.typeIn K (.ref (He.ma K (He.ga K x) "__init__")) = some (.type "function")
  no : ∀ f ∈ fs, PySem.W.findIn K (.ref (He.ga K x)) f = some none
  xf : XfC K (He.ga K x)
theorem excB_ok {K : PySem.W.Frag} {x : Str} {fs : List Str} (h : excB K x fs = true) : ExcT K x fs := by
  obtain ⟨h1, h⟩ := He.ba h
  obtain ⟨h2, h⟩ := He.ba h
  obtain ⟨h3, h⟩ := He.ba h
  obtain ⟨h4, h5⟩ := He.ba h
  exact ⟨oexB_ok h1, He.eqO_ok h2, of_decide_eq_true h3, fun f hf => He.eqO_ok (List.all_eq_true.mp h4 f hf), xfB_ok h5⟩
/-- a def of no defaults -/
theorem funOf {K : PySem.W.Frag} {x q : Str} {st : Stmt} {f : Addr} {fd : FuncData} (F : FunD K x q (defArgs st) (defBody st) (defScope st) [] [] f fd) : Fun K x q st f fd := by
  obtain ⟨oc, od, dV, kV, doc, pm, an, cdv, ct, osl, rfl, lk, hcd, hD, hK⟩ := F.ex
  rcases hD with ⟨_, rfl⟩ | ⟨e, _⟩
  · exact ⟨⟨oc, od, kV, doc, pm, an, cdv, ct, osl, rfl, lk, hcd⟩, F.kp⟩
  · exact absurd rfl e
abbrev AlX : Type := He.AlD × Bool
def obsX (fa : List He.Fa) (fn : List He.DefD) (ex : PySem.W.Frag → Bool) (K : PySem.W.Frag) : AlX := (He.obsD fa fn K, ex K)
def valX (fn : List He.DefD) : AlX := (He.valD fn, true)
def SaysX (fa : List He.Fa) (fn : List He.DefD) (ex : PySem.W.Frag → Bool) (K : PySem.W.Frag) : Prop := obsX fa fn ex K = valX fn
def obsXG (n : Nat) (fa : List He.Fa) (fn : List He.DefD) (ex : PySem.W.Frag → Bool) (g : Addr → Option Obj) : AlX := obsX fa fn ex (He.frG g (He.asD g n))
def hookX (n : Nat) (fa : List He.Fa) (fn : List He.DefD) (ex : PySem.W.Frag → Bool) : PySem.W.Hook where
  α := AlX
  obs := fun s => obsXG n fa fn ex s.heap.get?
  val := fun _ => valX fn
  says := fun _ h => ∃ K : PySem.W.Frag, K.In h ∧ SaysX fa fn ex K
  of := fun _ _ e => ⟨_, He.frG_in, e⟩
  keeps := fun _ _ _ ⟨K, hK, c⟩ k => ⟨K, PySem.W.Frag.In.keeps hK k, c⟩
theorem obsXG_eq {n : Nat} {fa : List He.Fa} {fn : List He.DefD} {ex : PySem.W.Frag → Bool} {g : Addr → Option Obj} {s : Shared} (h : ∀ a, g a = s.heap.get? a) : obsXG n fa fn ex g = (hookX n fa fn ex).obs s := by
  have e : g = s.heap.get? := funext h
  rw [e] <;> rfl
theorem SaysX.d {fa : List He.Fa} {fn : List He.DefD} {ex : PySem.W.Frag → Bool} {K : PySem.W.Frag} (c : SaysX fa fn ex K) : He.SaysD fa fn K := congrArg (fun z : AlX => z.1) c
theorem SaysX.x {fa : List He.Fa} {fn : List He.DefD} {ex : PySem.W.Frag → Bool} {K : PySem.W.Frag} (c : SaysX fa fn ex K) : ex K = true := congrArg (fun z : AlX => z.2) c
def spLaw (K : PySem.W.Frag) : Sp := fun vs H Q _ => ∃ (a : Addr) (ns : List Int), vs = [.ref a] ∧ ns.length ≤ 63 ∧ SqL K H a (ns.map V.int) ∧ ∀ H', Q (.bl true) H'
theorem ints_rp {K : PySem.W.Frag} {G : Hp} : ∀ ns : List Int, Paired (Rp K G) (ns.map V.int) (ns.map PD.int)
  | [] => .nil
  | n :: ns => .cons (.int n) (ints_rp ns)
theorem law_of {P : Program} {w : World} {K : PySem.W.Frag} {mg : Str → Option Value} {base : Heap} {k : Nat} {f : Addr} {fd : FuncData} {x : Str} {cx : Nat → Addr} {m : Fn} (F : FnOk P w K mg base (L2.CX P w) k f fd [x] (spD K cx [false] m))
    (h : ∀ ns : List Int, ns.length ≤ 63 → m [.lst (ns.map .int)] [] = .ok (.bl true) []) : FnOk P w K mg base (L2.CX P w) k f fd [x] (spLaw K) :=
  F.imp fun vs H Q E ⟨a, ns, e, hl, hS, hQ⟩ => by
    subst e
    refine ⟨H, [.lst (ns.map .int)], [], [], Same.refl _, .p (.lst hS (ints_rp ns)) .nil, List.nodup_nil, (fun a ha => by simp at ha), ?_⟩
    rw [h ns hl]
    intro v G' H' h1 r
    cases r
    exact hQ H'
theorem walkC {l : PySem.W.OpenLaw} {n k : Nat} {q : Program} {loose : List Str} {XP : (Str → Option Value) → Heap → Prop} {YP : World → Heap → Prop} {d : DefRec} {x : Str}
    (hn : l.most = some n) (hn2 : n ≤ sizeLine) (hdf : d.params.defaults = []) (hr : Room k callerA)
    (F : ∀ (w : World) (mg : Str → Option Value) (fa : Addr) (h : Heap), YP w h → h.Ns mainGlobals mg → mg d.name = some (.ref fa) →
      ∃ (K : PySem.W.Frag) (fd : FuncData) (sp : Sp), K.In h ∧ (∀ (s : Shared) (u : Value), BindsTo s fd ⟨[u], []⟩ [(x, u)]) ∧
        (∀ (H : Hp) (a : Addr) (ns : List Int), ns.length ≤ n → Only H → SqL K H a (ns.map V.int) → sp [.ref a] H (fun v _ => v = .bl true) fun _ _ _ => False) ∧
        ∀ base : Heap, K.In base → base.Ns mainGlobals mg → FnOk l.prog w K mg base (L2.CX l.prog w) k fa fd [x] sp) :
    PySem.W.WalkO q loose XP YP l.row.toRowW d [] (fun f vs => PySem.call f vs) := by
  refine Att.attach_call hn hdf fun w s₀ s₁ mg mb fa o pm cd doc a vs ns G Y ho hd hcd hmg hobj hints hlen hg => ?_
  obtain ⟨K, fd, sp, KX, hb, hsp, hF⟩ := F w mg fa _ Y G.T.g hmg
  exact law_call KX G.T.g G.T.b G.T.builtins G.T.nolimit hg hobj hints (Nat.le_trans hlen hn2) hr hF hb (fun H hO hS => hsp H a ns hlen hO hS) fun H e s' ⟨_, _, _, _, _, _, _, _, _, _, _, _, z⟩ => z
end DL
namespace DL
open PySem PySem.Spec L2

theorem deepV_p (k : Nat) (s : DS) (d : PD) : deepV k s (.p d) = some d := by cases k <;> rfl
theorem frz_p (k : Nat) (s : DS) (d : PD) : frz k s (.p d) = some (d, s) := by cases k <;> rfl
theorem frz_ref (k : Nat) (s : DS) (n : Nat) : frz (k + 1) s (.ref n) = match s.cells[n]? with
      | some (.lst l) => match frzW (frz k) s l with
        | some (ds, s') => match s'.cells[n]? with
          | some (.lst _) => some (.lst ds, { s' with cells := s'.cells.set n (.froz (.lst ds)) })
          | _ => none
        | none => none
      | some (.froz d) => some (d, s)
      | none => none := rfl
theorem frzW_nil (f : DS → D → Option (PD × DS)) (s : DS) : frzW f s [] = some ([], s) := rfl
theorem frzW_p (k : Nat) (s : DS) (d : PD) (r : List D) : frzW (frz k) s (.p d :: r) = match frzW (frz k) s r with
      | some (xs, s'') => some (d :: xs, s'')
      | none => none := by
  show (match frz k s (.p d) with
    | some (x, s') => match frzW (frz k) s' r with
      | some (xs, s'') => some (x :: xs, s'')
      | none => none
    | none => none) = _
  rw [frz_p]
theorem frzW_ref (k : Nat) (s : DS) (n : Nat) (r : List D) : frzW (frz k) s (.ref n :: r) = match frz k s (.ref n) with
    | some (x, s') => match frzW (frz k) s' r with
      | some (xs, s'') => some (x :: xs, s'')
      | none => none
    | none => none := rfl
theorem frzW_map (k : Nat) (s : DS) : ∀ l : List PD, frzW (frz k) s (l.map .p) = some (l, s)
  | [] => rfl
  | d :: l => by rw [List.map_cons, frzW_p, frzW_map k s l]
theorem pds_map : ∀ l : List PD, pds (l.map .p) = some l
  | [] => rfl
  | d :: l => by rw [List.map_cons, pds, pds_map l]; rfl
theorem map_p_nil : ([] : List PD).map D.p = [] := rfl
theorem map_p_cons (d : PD) (l : List PD) : (d :: l).map D.p = .p d :: l.map .p := rfl

theorem okq_non (n : Nat) : PD.non.okq n = true := by cases n <;> rfl
theorem okq_bl (n : Nat) (b : Bool) : (PD.bl b).okq n = true := by cases n <;> rfl
theorem okq_int (n : Nat) (i : Int) : (PD.int i).okq n = true := by cases n <;> rfl
theorem okq_str (n : Nat) (x : Str) : (PD.str x).okq n = PySem.PyData.strOk x := by cases n <;> rfl
theorem okq_tup (n : Nat) (l : List PD) : (PD.tup l).okq (n + 1) = PD.okqs n l := by simp only [PD.okq]
theorem okq_lst (n : Nat) (l : List PD) : (PD.lst l).okq (n + 1) = PD.okqs n l := by simp only [PD.okq]
theorem okqs_nil (n : Nat) : PD.okqs n [] = true := by simp only [PD.okqs]
theorem okqs_cons (n : Nat) (d : PD) (l : List PD) : PD.okqs n (d :: l) = (d.okq n && PD.okqs n l) := by simp only [PD.okqs]
/-- the same, where nothing is said of the depth -/
theorem eqF_pp (s : DS) (x y : PD) (hx : x.okq 60 = true) (hy : y.okq 60 = true) (hn : ∀ a b, x = .str a → y = .str b → False) : eqF s (.p x) (.p y) = some (PD.eqv x y) := by
  unfold eqF
  rw [deepV_p, deepV_p]
  dsimp only
  split
  · exact (hn _ _ rfl rfl).elim
  · rw [hx, hy]; rfl
theorem eqF_ss (s : DS) (a b : Str) : eqF s (.p (.str a)) (.p (.str b)) = some (decide (a = b)) := by
  unfold eqF
  rw [deepV_p, deepV_p]
theorem fEq_ii (s : DS) (i j : Int) : fEq (.p (.int i)) (.p (.int j)) s = .ok (.p (.bl (decide (i = j)))) s := by
  unfold fEq
  rw [eqF_pp s _ _ (okq_int _ _) (okq_int _ _) (fun a b h => by cases h)]
  simp only [PD.eqv]
  rw [Bool.beq_eq_decide_eq]
theorem fNe_ii (s : DS) (i j : Int) : fNe (.p (.int i)) (.p (.int j)) s = .ok (.p (.bl (!decide (i = j)))) s := by
  unfold fNe
  rw [eqF_pp s _ _ (okq_int _ _) (okq_int _ _) (fun a b h => by cases h)]
  simp only [PD.eqv]
  rw [Bool.beq_eq_decide_eq]
theorem fEq_ss (s : DS) (a b : Str) : fEq (.p (.str a)) (.p (.str b)) s = .ok (.p (.bl (decide (a = b)))) s := by
  unfold fEq; rw [eqF_ss]
theorem fNe_ss (s : DS) (a b : Str) : fNe (.p (.str a)) (.p (.str b)) s = .ok (.p (.bl (!decide (a = b)))) s := by
  unfold fNe; rw [eqF_ss]
theorem fEq_tt (s : DS) (a b : List PD) (ha : PD.okqs 59 a = true) (hb : PD.okqs 59 b = true) : fEq (.p (.tup a)) (.p (.tup b)) s = .ok (.p (.bl (PD.eqvs a b))) s := by
  unfold fEq
  rw [eqF_pp s _ _ (by rw [okq_tup]; exact ha) (by rw [okq_tup]; exact hb) (fun a b h => by cases h)]
  simp only [PD.eqv]
theorem fNe_tt (s : DS) (a b : List PD) (ha : PD.okqs 59 a = true) (hb : PD.okqs 59 b = true) : fNe (.p (.tup a)) (.p (.tup b)) s = .ok (.p (.bl (!PD.eqvs a b))) s := by
  unfold fNe
  rw [eqF_pp s _ _ (by rw [okq_tup]; exact ha) (by rw [okq_tup]; exact hb) (fun a b h => by cases h)]
  simp only [PD.eqv]
mutual
/-- no truth value within: then == is the equality of data -/
def PD.nb : PD → Bool
  | .bl _ => false
  | .tup l => PD.nbs l
  | .lst l => PD.nbs l
  | .obj _ _ => false
  | _ => true
def PD.nbs : List PD → Bool
  | [] => true
  | d :: ds => d.nb && PD.nbs ds
end
mutual
theorem eqv_refl : ∀ a : PD, a.nb = true → PD.eqv a a = true
  | .non, _ => by simp only [PD.eqv]
  | .bl _, _ => by simp [PD.eqv]
  | .int _, _ => by simp [PD.eqv]
  | .str _, _ => by simp [PD.eqv]
  | .tup l, h => by
    simp only [PD.nb] at h
    simp only [PD.eqv]
    exact eqvs_refl l h
  | .lst l, h => by
    simp only [PD.nb] at h
    simp only [PD.eqv]
    exact eqvs_refl l h
  | .obj _ _, h => by simp [PD.nb] at h
theorem eqvs_refl : ∀ l : List PD, PD.nbs l = true → PD.eqvs l l = true
  | [], _ => by simp only [PD.eqvs]
  | d :: l, h => by
    simp only [PD.nbs, Bool.and_eq_true] at h
    simp only [PD.eqvs, Bool.and_eq_true]
    exact ⟨eqv_refl d h.1, eqvs_refl l h.2⟩
end
mutual
theorem eqv_eq : ∀ a b : PD, a.nb = true → b.nb = true → PD.eqv a b = true → a = b
  | .non, b, _, hb, h => by cases b <;> first | rfl | (simp [PD.eqv] at h)
  | .bl _, b, ha, _, _ => by simp [PD.nb] at ha
  | .int i, b, _, hb, h => by
    cases b with
    | int j => simp [PD.eqv] at h; rw [h]
    | bl _ => simp [PD.nb] at hb
    | _ => simp [PD.eqv] at h
  | .str i, b, _, hb, h => by
    cases b with
    | str j => simp [PD.eqv] at h; rw [h]
    | _ => simp [PD.eqv] at h
  | .tup l, b, ha, hb, h => by
    cases b with
    | tup l' =>
      simp only [PD.nb] at ha hb
      simp only [PD.eqv] at h
      rw [eqvs_eq l l' ha hb h]
    | _ => simp [PD.eqv] at h
  | .lst l, b, ha, hb, h => by
    cases b with
    | lst l' =>
      simp only [PD.nb] at ha hb
      simp only [PD.eqv] at h
      rw [eqvs_eq l l' ha hb h]
    | _ => simp [PD.eqv] at h
  | .obj _ _, b, ha, _, _ => by simp [PD.nb] at ha
theorem eqvs_eq : ∀ a b : List PD, PD.nbs a = true → PD.nbs b = true → PD.eqvs a b = true → a = b
  | [], [], _, _, _ => rfl
  | [], _ :: _, _, _, h => by simp [PD.eqvs] at h
  | _ :: _, [], _, _, h => by simp [PD.eqvs] at h
  | a :: as, b :: bs, ha, hb, h => by
    simp only [PD.nbs, Bool.and_eq_true] at ha hb
    simp only [PD.eqvs, Bool.and_eq_true] at h
    rw [eqv_eq a b ha.1 hb.1 h.1, eqvs_eq as bs ha.2 hb.2 h.2]
end
theorem eqvs_iff (a b : List PD) (ha : PD.nbs a = true) (hb : PD.nbs b = true) [Decidable (a = b)] : PD.eqvs a b = decide (a = b) := by
  by_cases h : a = b
  · subst h
    rw [eqvs_refl a ha, decide_eq_true rfl]
  · rw [decide_eq_false h]
    exact Bool.eq_false_iff.mpr fun q => h (eqvs_eq a b ha hb q)

section
variable {α : Type} {a b c d e : α} {l : List α}
theorem at0 : atI (a :: l) 0 = some a := by
  unfold atI ixN
  rw [if_pos (by decide), if_pos (by rw [List.length_cons]; omega)] <;> rfl
theorem at1 : atI (a :: b :: l) 1 = some b := by
  unfold atI ixN
  rw [if_pos (by decide), if_pos (by simp only [List.length_cons]; omega)] <;> rfl
theorem at2 : atI (a :: b :: c :: l) 2 = some c := by
  unfold atI ixN
  rw [if_pos (by decide), if_pos (by simp only [List.length_cons]; omega)] <;> rfl
theorem at3 : atI (a :: b :: c :: d :: l) 3 = some d := by
  unfold atI ixN
  rw [if_pos (by decide), if_pos (by simp only [List.length_cons]; omega)] <;> rfl
theorem at4 : atI (a :: b :: c :: d :: e :: l) 4 = some e := by
  unfold atI ixN
  rw [if_pos (by decide), if_pos (by simp only [List.length_cons]; omega)] <;> rfl
theorem atNat {l : List α} {i : Nat} {x : α} (h : l[i]? = some x) : atI l (i : Int) = some x := by
  unfold atI ixN
  have hl := (List.getElem?_eq_some_iff.mp h).1
  rw [if_pos (by omega), if_pos (by omega)]
  exact h
end
theorem ix10 : ixN 1 0 = some 0 := rfl
theorem ix20 : ixN 2 0 = some 0 := rfl
theorem ix21 : ixN 2 1 = some 1 := rfl
theorem ix30 : ixN 3 0 = some 0 := rfl
theorem ix31 : ixN 3 1 = some 1 := rfl
theorem ix32 : ixN 3 2 = some 2 := rfl
theorem ix40 : ixN 4 0 = some 0 := rfl
theorem ix41 : ixN 4 1 = some 1 := rfl
theorem ix42 : ixN 4 2 = some 2 := rfl
theorem ix43 : ixN 4 3 = some 3 := rfl
theorem ix50 : ixN 5 0 = some 0 := rfl
theorem ix51 : ixN 5 1 = some 1 := rfl
theorem ix52 : ixN 5 2 = some 2 := rfl
theorem ix53 : ixN 5 3 = some 3 := rfl
theorem ix54 : ixN 5 4 = some 4 := rfl
theorem ix60 : ixN 6 0 = some 0 := rfl
theorem ix61 : ixN 6 1 = some 1 := rfl
theorem ix62 : ixN 6 2 = some 2 := rfl
theorem ix63 : ixN 6 3 = some 3 := rfl
theorem ix64 : ixN 6 4 = some 4 := rfl
theorem ix65 : ixN 6 5 = some 5 := rfl
theorem ix70 : ixN 7 0 = some 0 := rfl
theorem ix71 : ixN 7 1 = some 1 := rfl
theorem ix72 : ixN 7 2 = some 2 := rfl
theorem ix73 : ixN 7 3 = some 3 := rfl
theorem ix74 : ixN 7 4 = some 4 := rfl
theorem ix75 : ixN 7 5 = some 5 := rfl
theorem ix76 : ixN 7 6 = some 6 := rfl
theorem ix80 : ixN 8 0 = some 0 := rfl
theorem ix81 : ixN 8 1 = some 1 := rfl
theorem ix82 : ixN 8 2 = some 2 := rfl
theorem ix83 : ixN 8 3 = some 3 := rfl
theorem ix84 : ixN 8 4 = some 4 := rfl
theorem ix85 : ixN 8 5 = some 5 := rfl
theorem ix86 : ixN 8 6 = some 6 := rfl
theorem ix87 : ixN 8 7 = some 7 := rfl
theorem seqOf_tup (s : DS) (l : List PD) : seqOf s (.p (.tup l)) = some (l.map .p) := rfl
theorem seqOf_lst (s : DS) (l : List PD) : seqOf s (.p (.lst l)) = some (l.map .p) := rfl
theorem seqOf_ref (s : DS) (n : Nat) : seqOf s (.ref n) = match s.cells[n]? with
    | some (.lst l) => some l
    | some (.froz (.lst l)) => some (l.map .p)
    | _ => none := rfl
theorem listOf_lst (s : DS) (l : List PD) : listOf s (.p (.lst l)) = some (l.map .p) := rfl
theorem listOf_ref (s : DS) (n : Nat) : listOf s (.ref n) = match s.cells[n]? with
    | some (.lst l) => some l
    | some (.froz (.lst l)) => some (l.map .p)
    | _ => none := rfl
theorem fIx_tup (s : DS) (l : List PD) (i : Int) : fIx (.p (.tup l)) (.p (.int i)) s = match atI (l.map D.p) i with
    | some x => .ok x s
    | none => .no := rfl
theorem fIx_lst (s : DS) (l : List PD) (i : Int) : fIx (.p (.lst l)) (.p (.int i)) s = match atI (l.map D.p) i with
    | some x => .ok x s
    | none => .no := rfl
theorem fIx_ref (s : DS) (n : Nat) (i : Int) : fIx (.ref n) (.p (.int i)) s = match seqOf s (.ref n) with
      | some l => match atI l i with
        | some x => .ok x s
        | none => .no
      | none => .no := rfl

theorem kit_ii : kitB "int" "int" = some true := by decide +kernel
theorem kit_bi : kitB "bool" "int" = some true := by decide +kernel
theorem kit_ni : kitB "NoneType" "int" = some false := by decide +kernel
theorem kit_si : kitB "str" "int" = some false := by decide +kernel
theorem kit_ti : kitB "tuple" "int" = some false := by decide +kernel
theorem kit_li : kitB "list" "int" = some false := by decide +kernel
theorem kit_ib : kitB "int" "bool" = some false := by decide +kernel
theorem kit_bb : kitB "bool" "bool" = some true := by decide +kernel
theorem kit_nb : kitB "NoneType" "bool" = some false := by decide +kernel
theorem kit_sb : kitB "str" "bool" = some false := by decide +kernel
theorem kit_tb : kitB "tuple" "bool" = some false := by decide +kernel
theorem kit_lb : kitB "list" "bool" = some false := by decide +kernel
theorem kit_it : kitB "int" "tuple" = some false := by decide +kernel
theorem kit_bt : kitB "bool" "tuple" = some false := by decide +kernel
theorem kit_nt : kitB "NoneType" "tuple" = some false := by decide +kernel
theorem kit_st : kitB "str" "tuple" = some false := by decide +kernel
theorem kit_tt : kitB "tuple" "tuple" = some true := by decide +kernel
theorem kit_lt : kitB "list" "tuple" = some false := by decide +kernel
theorem kit_is : kitB "int" "str" = some false := by decide +kernel
theorem kit_bs : kitB "bool" "str" = some false := by decide +kernel
theorem kit_ns : kitB "NoneType" "str" = some false := by decide +kernel
theorem kit_ss : kitB "str" "str" = some true := by decide +kernel
theorem kit_ts : kitB "tuple" "str" = some false := by decide +kernel
theorem kit_ls : kitB "list" "str" = some false := by decide +kernel
theorem kit_il : kitB "int" "list" = some false := by decide +kernel
theorem kit_bl : kitB "bool" "list" = some false := by decide +kernel
theorem kit_nl : kitB "NoneType" "list" = some false := by decide +kernel
theorem kit_sl : kitB "str" "list" = some false := by decide +kernel
theorem kit_tl : kitB "tuple" "list" = some false := by decide +kernel
theorem kit_ll : kitB "list" "list" = some true := by decide +kernel

theorem callF_pure {ms : List Bool} {f : Fn} {ds : List D} {s s' : DS} {xs : List PD} (h : passArgs ms ds s = some (xs, [], s')) : callF ms f ds s = callR s' [] (f xs []) := by
  unfold callF
  rw [h] <;> rfl
theorem pass_nil (s : DS) : passArgs [] [] s = some ([], [], s) := rfl
theorem pass_p (ms : List Bool) (d : PD) (ds : List D) (s : DS) : passArgs (false :: ms) (.p d :: ds) s = match passArgs ms ds s with
      | some (xs, ns, s'') => some (d :: xs, ns, s'')
      | none => none := by
  show (match frz fuel s (.p d) with
    | some (x, s') => match passArgs ms ds s' with
      | some (xs, ns, s'') => some (x :: xs, ns, s'')
      | none => none
    | none => none) = _
  rw [frz_p]
theorem pass_f (ms : List Bool) (n : Nat) (ds : List D) (s : DS) : passArgs (false :: ms) (.ref n :: ds) s = match frz fuel s (.ref n) with
    | some (x, s') => match passArgs ms ds s' with
      | some (xs, ns, s'') => some (x :: xs, ns, s'')
      | none => none
    | none => none := rfl
theorem pass_m (ms : List Bool) (n : Nat) (ds : List D) (s : DS) : passArgs (true :: ms) (.ref n :: ds) s = match passArgs ms ds s with
    | some (xs, ns, s') => some (xs, n :: ns, s')
    | none => none := rfl

theorem Sm.fmod {k : Nat} {i j : Int} (h : j.natAbs < 2 ^ k) (hj : 0 < j) : (i.fmod j).natAbs < 2 ^ k := by
  have h1 := Int.fmod_nonneg_of_pos i hj
  have h2 := Int.fmod_lt_of_pos i hj
  omega
/-- fewer than k bits -/
def Sm (k : Nat) (i : Int) : Prop := i.natAbs < 2 ^ k
theorem Sm.mono {k l : Nat} {i : Int} (h : Sm k i) (hl : k ≤ l) : Sm l i := Nat.lt_of_lt_of_le h (Nat.pow_le_pow_right (by decide) hl)
theorem Sm.log {k : Nat} {i : Int} (h : Sm k i) (hk : 0 < k) : i.natAbs.log2 < k := PySem.Flt.log2_lt_of hk h
theorem Sm.mul {k l : Nat} {i j : Int} (h : Sm k i) (h2 : Sm l j) : Sm (k + l) (i * j) := wide_lt h h2
theorem Sm.add {k : Nat} {i j : Int} (h : Sm k i) (h2 : Sm k j) : Sm (k + 1) (i + j) := by
  unfold Sm at *
  have e : 2 ^ (k + 1) = 2 ^ k + 2 ^ k := by rw [Nat.pow_succ]; omega
  omega
theorem Sm.sub {k : Nat} {i j : Int} (h : Sm k i) (h2 : Sm k j) : Sm (k + 1) (i - j) := by
  unfold Sm at *
  have e : 2 ^ (k + 1) = 2 ^ k + 2 ^ k := by rw [Nat.pow_succ]; omega
  omega
theorem Sm.neg {k : Nat} {i : Int} (h : Sm k i) : Sm k (-i) := by unfold Sm at *; omega
theorem Sm.of_le {k : Nat} {i : Int} {n : Nat} (h : i.natAbs ≤ n) (hn : n < 2 ^ k) : Sm k i := Nat.lt_of_le_of_lt h hn
theorem Sm.le {k : Nat} {i j : Int} (h : Sm k j) (hn : i.natAbs ≤ j.natAbs) : Sm k i := Nat.lt_of_le_of_lt hn h
theorem Sm.one {k : Nat} (hk : 0 < k) : Sm k 1 := by
  have : 2 ^ 1 ≤ 2 ^ k := Nat.pow_le_pow_right (by decide) hk
  unfold Sm
  show 1 < 2 ^ k
  omega
theorem Sm.zero {k : Nat} : Sm k 0 := Nat.pow_pos (by decide)
theorem bigC_of {k l : Nat} {i j : Int} (h : Sm k i) (h2 : Sm l j) (hk : 0 < k) (hl : 0 < l) (hs : k + l ≤ 1000000) : bigC i j = true := by
  have a := h.log hk
  have b := h2.log hl
  exact decide_eq_true (by omega)
theorem divC_of {k : Nat} {i j : Int} (h0 : j ≠ 0) (h : Sm k j) (hk : 0 < k) (hs : k ≤ 9000) : divC i j = true := by
  have a := h.log hk
  unfold divC
  rw [decide_eq_true h0, decide_eq_true (by omega : j.natAbs.log2 < 9000)] <;> rfl

theorem range_1 : List.range 1 = [0] := rfl
theorem range_2 : List.range 2 = [0, 1] := rfl
theorem fEq_same (s : DS) (x : PD) (ho : x.okq 60 = true) (hn : x.nb = true) : fEq (.p x) (.p x) s = .ok (.p (.bl true)) s := by
  by_cases h : ∃ a, x = .str a
  · obtain ⟨a, rfl⟩ := h
    rw [fEq_ss, decide_eq_true rfl]
  · unfold fEq
    rw [eqF_pp s x x ho ho (fun a _ e _ => h ⟨a, e⟩), eqv_refl x hn]
theorem fNe_same (s : DS) (x : PD) (ho : x.okq 60 = true) (hn : x.nb = true) : fNe (.p x) (.p x) s = .ok (.p (.bl false)) s := by
  by_cases h : ∃ a, x = .str a
  · obtain ⟨a, rfl⟩ := h
    rw [fNe_ss, decide_eq_true rfl] <;> rfl
  · unfold fNe
    rw [eqF_pp s x x ho ho (fun a _ e _ => h ⟨a, e⟩), eqv_refl x hn] <;> rfl

theorem loopC_map {n : Nat} {env0 : List (Option D)} {f : D → DS → Option DS} {e : DS → ER D} {g : PD → PD} {cs : List Cell} (hn : cs.length = n) : ∀ (ds : List PD) (acc : List D),
    (∀ d ∈ ds, ∀ acc, ∃ env1 env2, f (.p d) ⟨env0, cs ++ [.lst acc], none⟩ = some ⟨env1, cs ++ [.lst acc], none⟩ ∧ e ⟨env1, cs ++ [.lst acc], none⟩ = .ok (.p (g d)) ⟨env2, cs ++ [.lst acc], none⟩) → acc.length + ds.length ≤ line →
    loopC n env0 f mYes e (ds.map .p) ⟨env0, cs ++ [.lst acc], none⟩ = some ⟨env0, cs ++ [.lst (acc ++ (ds.map g).map .p)], none⟩
  | [], acc, _, _ => by simp [loopC]
  | d :: ds, acc, h, hl => by
    obtain ⟨env1, env2, h1, h2⟩ := h d List.mem_cons_self acc
    have hc : (cs ++ [Cell.lst acc])[n]? = some (.lst acc) := by rw [← hn]; exact at_last
    have hs : (cs ++ [Cell.lst acc]).set n (.lst (acc ++ [.p (g d)])) = cs ++ [.lst (acc ++ [.p (g d)])] := by
      rw [← hn, List.set_append_right _ _ (Nat.le_refl _), Nat.sub_self] <;> rfl
    have hlt : acc.length < line := by rw [List.length_cons] at hl; omega
    have ih := loopC_map (e := e) (g := g) hn ds (acc ++ [.p (g d)]) (fun x hx => h x (List.mem_cons_of_mem _ hx)) (by rw [List.length_append, List.length_singleton]; rw [List.length_cons] at hl; omega)
    rw [List.map_cons]
    unfold loopC
    simp only [h1, mYes, h2, hc, hlt, if_true, hs]
    rw [ih]
    simp [List.append_assoc]
theorem mLc_map {mi : DS → ER (List D)} {f : D → DS → Option DS} {e : DS → ER D} {g : PD → PD} {vs : List Nat} {s s1 : DS} {ds : List PD} (hi : mi s = .ok (ds.map .p) s1) (hx : s1.ex = none)
    (h : ∀ d ∈ ds, ∀ acc, ∃ env1 env2, f (.p d) ⟨wipeE s1.env vs, s1.cells ++ [.lst acc], none⟩ = some ⟨env1, s1.cells ++ [.lst acc], none⟩ ∧ e ⟨env1, s1.cells ++ [.lst acc], none⟩ = .ok (.p (g d)) ⟨env2, s1.cells ++ [.lst acc], none⟩) (hl : ds.length ≤ line) :
    mLc mi f mYes e vs s = .ok (.ref s1.cells.length) ⟨s1.env, s1.cells ++ [.lst ((ds.map g).map .p)], none⟩ := by
  obtain ⟨env, cells, ex⟩ := s1
  cases hx
  unfold mLc mb
  rw [hi]
  dsimp only
  have k := loopC_map (n := cells.length) (env0 := wipeE env vs) (f := f) (e := e) (g := g) (cs := cells) rfl ds [] h (by rw [List.length_nil, Nat.zero_add]; exact hl)
  rw [k] <;> rfl

theorem nc0 : ((0 : Nat) : Int) = 0 := rfl
theorem nc1 : ((1 : Nat) : Int) = 1 := rfl
theorem nc2 : ((2 : Nat) : Int) = 2 := rfl
theorem nc3 : ((3 : Nat) : Int) = 3 := rfl
theorem nc4 : ((4 : Nat) : Int) = 4 := rfl
theorem nc5 : ((5 : Nat) : Int) = 5 := rfl
theorem nc6 : ((6 : Nat) : Int) = 6 := rfl

section
variable {f : D → DS → Option DS} {body : DS → SR} {d : D} {r : List D} {s s1 s2 : DS}
theorem loop_nil : loop f body [] s = .nx s := rfl
theorem loop_nx (h1 : f d s = some s1) (h2 : body s1 = .nx s2) : loop f body (d :: r) s = loop f body r s2 := by
  show (match f d s with
    | none => SR.no
    | some s1 => match body s1 with
      | .nx s2 => loop f body r s2
      | .ct s2 => loop f body r s2
      | .bk s2 => .nx s2
      | o => o) = _
  rw [h1]
  dsimp only
  rw [h2]
theorem loop_ct (h1 : f d s = some s1) (h2 : body s1 = .ct s2) : loop f body (d :: r) s = loop f body r s2 := by
  show (match f d s with
    | none => SR.no
    | some s1 => match body s1 with
      | .nx s2 => loop f body r s2
      | .ct s2 => loop f body r s2
      | .bk s2 => .nx s2
      | o => o) = _
  rw [h1]
  dsimp only
  rw [h2]
theorem loop_bk (h1 : f d s = some s1) (h2 : body s1 = .bk s2) : loop f body (d :: r) s = .nx s2 := by
  show (match f d s with
    | none => SR.no
    | some s1 => match body s1 with
      | .nx s2 => loop f body r s2
      | .ct s2 => loop f body r s2
      | .bk s2 => .nx s2
      | o => o) = _
  rw [h1]
  dsimp only
  rw [h2]
theorem loop_rt {x : D} (h1 : f d s = some s1) (h2 : body s1 = .rt x s2) : loop f body (d :: r) s = .rt x s2 := by
  show (match f d s with
    | none => SR.no
    | some s1 => match body s1 with
      | .nx s2 => loop f body r s2
      | .ct s2 => loop f body r s2
      | .bk s2 => .nx s2
      | o => o) = _
  rw [h1]
  dsimp only
  rw [h2]
/-- one statement of a block, the rest behind it -/
theorem seq_nx {m n : DS → SR} {o : SR} (h : m s = .nx s1) (k : n s1 = o) : sSeq m n s = o := by
  unfold sSeq; rw [h]; exact k
theorem seq_rt {m n : DS → SR} {x : D} (h : m s = .rt x s1) : sSeq m n s = .rt x s1 := by
  unfold sSeq; rw [h]
theorem if_t {t : DS → ER Bool} {m n : DS → SR} {o : SR} (h : t s = .ok true s1) (k : m s1 = o) : sIf t m n s = o := by
  unfold sIf eb; rw [h]; exact k
theorem if_f {t : DS → ER Bool} {m n : DS → SR} {o : SR} (h : t s = .ok false s1) (k : n s1 = o) : sIf t m n s = o := by
  unfold sIf eb; rw [h]; exact k
theorem for_ok {mi : DS → ER (List D)} {items : List D} {o : SR} (h : mi s = .ok items s1) (k : loop f body items s1 = o) : sFor mi f body s = o := by
  unfold sFor eb; rw [h]; exact k
end
end DL
namespace DL
open PySem PySem.Spec L2
def gI (a b : Int) : Int := (Nat.gcd a.natAbs b.natAbs : Nat)
/-- a / b in lowest terms -/
def low (a b : Int) : Int × Int := if b < 0 then (a.fdiv (-(gI a b)), b.fdiv (-(gI a b))) else (a.fdiv (gI a b), b.fdiv (gI a b))
def rat (p : Int × Int) : PD := .tup [.int p.1, .int p.2]
theorem gI_pos {a b : Int} (h : b ≠ 0) : 0 < gI a b := by
  have : 0 < Nat.gcd a.natAbs b.natAbs := Nat.gcd_pos_of_pos_right _ (by omega)
  unfold gI
  omega
theorem gI_dvd (a b : Int) : ∃ k l : Int, a = gI a b * k ∧ b = gI a b * l := by
  have h1 : gI a b ∣ a := Int.ofNat_dvd_left.mpr (Nat.gcd_dvd_left _ _)
  have h2 : gI a b ∣ b := Int.ofNat_dvd_left.mpr (Nat.gcd_dvd_right _ _)
  obtain ⟨k, hk⟩ := h1
  obtain ⟨l, hl⟩ := h2
  exact ⟨k, l, hk, hl⟩
theorem fdiv_neg_mul {g k : Int} (h : 0 < g) : (g * k).fdiv (-g) = -k := by
  have e : g * k = -g * -k := by rw [Int.neg_mul_neg]
  rw [e]
  exact Int.mul_fdiv_cancel_left _ (by omega)
theorem natAbs_le_mul {g k : Int} (h : 0 < g) : k.natAbs ≤ (g * k).natAbs := by
  rw [Int.natAbs_mul]
  exact Nat.le_mul_of_pos_left _ (by omega)
theorem gcd_one_of {g k l : Int} {a b : Int} (hg : 0 < g) (ha : a = g * k) (hb : b = g * l) (e : g = gI a b) : Nat.gcd k.natAbs l.natAbs = 1 := by
  have h : Nat.gcd a.natAbs b.natAbs = g.natAbs * Nat.gcd k.natAbs l.natAbs := by
    rw [ha, hb, Int.natAbs_mul, Int.natAbs_mul, Nat.gcd_mul_left]
  have e' : Nat.gcd a.natAbs b.natAbs = g.natAbs := by
    have := congrArg Int.natAbs e
    unfold gI at this
    rw [Int.natAbs_natCast] at this
    exact this.symm
  rw [e'] at h
  have hp : 0 < g.natAbs := by omega
  have := Nat.eq_of_mul_eq_mul_left hp (h.symm.trans (Nat.mul_one _).symm)
  exact this
/-- what low is -/
theorem low_spec {a b : Int} (h : b ≠ 0) : 0 < (low a b).2 ∧ Nat.gcd (low a b).1.natAbs (low a b).2.natAbs = 1 ∧ a * (low a b).2 = (low a b).1 * b ∧ (low a b).1.natAbs ≤ a.natAbs ∧ (low a b).2.natAbs ≤ b.natAbs := by
  have hg := gI_pos (a := a) h
  obtain ⟨k, l, hk, hl⟩ := gI_dvd a b
  have one := gcd_one_of hg hk hl rfl
  by_cases hb : b < 0
  · have e : low a b = (-k, -l) := by
      unfold low
      rw [if_pos hb]
      have e1 : a.fdiv (-gI a b) = -k := by
        conv => lhs; arg 1; rw [hk]
        exact fdiv_neg_mul hg
      have e2 : b.fdiv (-gI a b) = -l := by
        conv => lhs; arg 1; rw [hl]
        exact fdiv_neg_mul hg
      rw [e1, e2]
    rw [e]
    have l0 : l < 0 := by
      refine Int.lt_of_not_ge fun q => ?_
      have := Int.mul_nonneg (Int.le_of_lt hg) q
      omega
    refine ⟨by show 0 < -l; omega, by simpa using one, ?_, ?_, ?_⟩
    · show a * -l = -k * b
      have e1 : a * -l = -(gI a b * k * l) := by
        conv => lhs; arg 1; rw [hk]
        rw [Int.mul_neg]
      have e2 : -k * b = -(gI a b * k * l) := by
        conv => lhs; arg 2; rw [hl]
        rw [Int.neg_mul, Int.mul_left_comm, Int.mul_assoc]
      rw [e1, e2]
    · show (-k).natAbs ≤ a.natAbs
      rw [Int.natAbs_neg]
      conv => rhs; rw [hk]
      exact natAbs_le_mul hg
    · show (-l).natAbs ≤ b.natAbs
      rw [Int.natAbs_neg]
      conv => rhs; rw [hl]
      exact natAbs_le_mul hg
  · have e : low a b = (k, l) := by
      unfold low
      rw [if_neg hb]
      have e1 : a.fdiv (gI a b) = k := by
        conv => lhs; arg 1; rw [hk]
        exact Int.mul_fdiv_cancel_left _ (by omega)
      have e2 : b.fdiv (gI a b) = l := by
        conv => lhs; arg 1; rw [hl]
        exact Int.mul_fdiv_cancel_left _ (by omega)
      rw [e1, e2]
    rw [e]
    have l0 : 0 < l := by
      refine Int.lt_of_not_ge fun q => ?_
      have := Int.mul_nonneg (Int.le_of_lt hg) (Int.neg_nonneg.mpr q)
      rw [Int.mul_neg] at this
      omega
    refine ⟨l0, one, ?_, ?_, ?_⟩
    · show a * l = k * b
      have e1 : a * l = gI a b * k * l := by
        conv => lhs; arg 1; rw [hk]
      have e2 : k * b = gI a b * k * l := by
        conv => lhs; arg 2; rw [hl]
        rw [Int.mul_left_comm, Int.mul_assoc]
      rw [e1, e2]
    · show k.natAbs ≤ a.natAbs
      conv => rhs; rw [hk]
      exact natAbs_le_mul hg
    · show l.natAbs ≤ b.natAbs
      conv => rhs; rw [hl]
      exact natAbs_le_mul hg
theorem low_one (x : Int) : low x 1 = (x, 1) := by
  have e : gI x 1 = 1 := by
    unfold gI
    have : Nat.gcd x.natAbs (1 : Int).natAbs = 1 := Nat.gcd_one_right _
    rw [this]
    rfl
  unfold low
  rw [if_neg (by decide), e, Int.fdiv_one, Int.fdiv_one]
/-- the law's way: signs first -/
theorem low_abs {a b : Int} (h : b ≠ 0) : low a b = if b < 0 then ((-a).fdiv (gI a b), (-b).fdiv (gI a b)) else (a.fdiv (gI a b), b.fdiv (gI a b)) := by
  have hg := gI_pos (a := a) h
  obtain ⟨k, l, hk, hl⟩ := gI_dvd a b
  unfold low
  by_cases hb : b < 0
  · rw [if_pos hb, if_pos hb]
    have f (x m : Int) (e : x = gI a b * m) : x.fdiv (-gI a b) = (-x).fdiv (gI a b) := by
      rw [e, fdiv_neg_mul hg, ← Int.mul_neg, Int.mul_fdiv_cancel_left _ (by omega)]
    rw [f a k hk, f b l hl]
  · rw [if_neg hb, if_neg hb]
theorem gI_neg (a b : Int) : gI (-a) (-b) = gI a b := by unfold gI; rw [Int.natAbs_neg, Int.natAbs_neg]
end DL
namespace K01
open PySem PySem.Spec L2 DL
abbrev top (i : Nat) : Stmt := PySem.Challenge.pw_neverfactored_k01_whole_ratios_reckoned.main.body.getD i (.Pass ⟨0, 0, 0, 0⟩)
abbrev s__law_start : Stmt := top 21
abbrev N__law_start : List Str := ["_law_script", "_law_total", "_law_cell"]
theorem sc__law_start : FnScope N__law_start ["_law_script"] (defScope s__law_start) := ⟨rfl, rfl, rfl, by decide +kernel, rfl, by decide +kernel, by decide +kernel⟩
abbrev s__law_mixed : Stmt := top 22
abbrev N__law_mixed : List Str := ["_law_number_here", "_law_turn", "_law_here", "_law_there"]
theorem sc__law_mixed : FnScope N__law_mixed ["_law_number_here", "_law_turn"] (defScope s__law_mixed) := ⟨rfl, rfl, rfl, by decide +kernel, rfl, by decide +kernel, by decide +kernel⟩
abbrev s__law_draw : Stmt := top 23
abbrev N__law_draw : List Str := ["_law_hand", "_law_many", "_law_cell", "_law_digit"]
theorem sc__law_draw : FnScope N__law_draw ["_law_hand", "_law_many"] (defScope s__law_draw) := ⟨rfl, rfl, rfl, by decide +kernel, rfl, by decide +kernel, by decide +kernel⟩
abbrev s__law_number : Stmt := top 30
abbrev N__law_number : List Str := ["_law_hand", "_law_pick", "_law_sign"]
theorem sc__law_number : FnScope N__law_number ["_law_hand"] (defScope s__law_number) := ⟨rfl, rfl, rfl, by decide +kernel, rfl, by decide +kernel, by decide +kernel⟩
abbrev s_is_whole : Stmt := top 8
abbrev N_is_whole : List Str := ["thing", "low", "high"]
theorem sc_is_whole : FnScope N_is_whole ["thing", "low", "high"] (defScope s_is_whole) := ⟨rfl, rfl, rfl, by decide +kernel, rfl, by decide +kernel, by decide +kernel⟩
abbrev s_lowest : Stmt := top 10
abbrev N_lowest : List Str := ["top", "bottom", "shared"]
theorem sc_lowest : FnScope N_lowest ["top", "bottom"] (defScope s_lowest) := ⟨rfl, rfl, rfl, by decide +kernel, rfl, by decide +kernel, by decide +kernel⟩
abbrev s_make_ratio : Stmt := top 11
abbrev N_make_ratio : List Str := ["top", "bottom"]
theorem sc_make_ratio : FnScope N_make_ratio ["top", "bottom"] (defScope s_make_ratio) := ⟨rfl, rfl, rfl, by decide +kernel, rfl, by decide +kernel, by decide +kernel⟩
abbrev s__law_made : Stmt := top 31
abbrev N__law_made : List Str := ["_law_top", "_law_bottom", "e"]
theorem sc__law_made : FnScope N__law_made ["_law_top", "_law_bottom"] (defScope s__law_made) := ⟨rfl, rfl, rfl, by decide +kernel, rfl, by decide +kernel, by decide +kernel⟩
abbrev s__law_gcd : Stmt := top 24
abbrev N__law_gcd : List Str := ["_law_a", "_law_b", "_law_step"]
theorem sc__law_gcd : FnScope N__law_gcd ["_law_a", "_law_b"] (defScope s__law_gcd) := ⟨rfl, rfl, rfl, by decide +kernel, rfl, by decide +kernel, by decide +kernel⟩
abbrev s__law_ratio : Stmt := top 25
abbrev N__law_ratio : List Str := ["_law_top", "_law_bottom", "_law_part"]
theorem sc__law_ratio : FnScope N__law_ratio ["_law_top", "_law_bottom"] (defScope s__law_ratio) := ⟨rfl, rfl, rfl, by decide +kernel, rfl, by decide +kernel, by decide +kernel⟩
abbrev s__law_is_ratio : Stmt := top 28
abbrev N__law_is_ratio : List Str := ["_law_thing", "_law_item"]
theorem sc__law_is_ratio : FnScope N__law_is_ratio ["_law_thing"] (defScope s__law_is_ratio) := ⟨rfl, rfl, rfl, by decide +kernel, rfl, by decide +kernel, by decide +kernel⟩
abbrev s__law_made_rightly : Stmt := top 34
abbrev N__law_made_rightly : List Str := ["_law_a", "_law_b", "_law_found"]
theorem sc__law_made_rightly : FnScope N__law_made_rightly ["_law_a", "_law_b"] (defScope s__law_made_rightly) := ⟨rfl, rfl, rfl, by decide +kernel, rfl, by decide +kernel, by decide +kernel⟩
abbrev s_is_ratio : Stmt := top 9
abbrev N_is_ratio : List Str := ["thing"]
theorem sc_is_ratio : FnScope N_is_ratio ["thing"] (defScope s_is_ratio) := ⟨rfl, rfl, rfl, by decide +kernel, rfl, by decide +kernel, by decide +kernel⟩
abbrev s__law_told : Stmt := top 29
abbrev N__law_told : List Str := ["_law_found", "_law_due"]
theorem sc__law_told : FnScope N__law_told ["_law_found", "_law_due"] (defScope s__law_told) := ⟨rfl, rfl, rfl, by decide +kernel, rfl, by decide +kernel, by decide +kernel⟩
abbrev s__law_odd_rightly : Stmt := top 35
abbrev N__law_odd_rightly : List Str := ["_law_a", "_law_b", "_law_odd", "_law_thing", "_law_good"]
theorem sc__law_odd_rightly : FnScope N__law_odd_rightly ["_law_a", "_law_b"] (defScope s__law_odd_rightly) := ⟨rfl, rfl, rfl, by decide +kernel, rfl, by decide +kernel, by decide +kernel⟩
abbrev s__law_whole_rightly : Stmt := top 36
abbrev N__law_whole_rightly : List Str := ["_law_a", "_law_low", "_law_high"]
theorem sc__law_whole_rightly : FnScope N__law_whole_rightly ["_law_a", "_law_low", "_law_high"] (defScope s__law_whole_rightly) := ⟨rfl, rfl, rfl, by decide +kernel, rfl, by decide +kernel, by decide +kernel⟩
abbrev s_ratio_negative : Stmt := top 16
abbrev N_ratio_negative : List Str := ["one"]
theorem sc_ratio_negative : FnScope N_ratio_negative ["one"] (defScope s_ratio_negative) := ⟨rfl, rfl, rfl, by decide +kernel, rfl, by decide +kernel, by decide +kernel⟩
abbrev s_ratio_times : Stmt := top 14
abbrev N_ratio_times : List Str := ["one", "other"]
theorem sc_ratio_times : FnScope N_ratio_times ["one", "other"] (defScope s_ratio_times) := ⟨rfl, rfl, rfl, by decide +kernel, rfl, by decide +kernel, by decide +kernel⟩
abbrev s_ratio_minus : Stmt := top 13
abbrev N_ratio_minus : List Str := ["one", "other"]
theorem sc_ratio_minus : FnScope N_ratio_minus ["one", "other"] (defScope s_ratio_minus) := ⟨rfl, rfl, rfl, by decide +kernel, rfl, by decide +kernel, by decide +kernel⟩
abbrev s_ratio_plus : Stmt := top 12
abbrev N_ratio_plus : List Str := ["one", "other"]
theorem sc_ratio_plus : FnScope N_ratio_plus ["one", "other"] (defScope s_ratio_plus) := ⟨rfl, rfl, rfl, by decide +kernel, rfl, by decide +kernel, by decide +kernel⟩
abbrev s_ratio_power : Stmt := top 17
abbrev N_ratio_power : List Str := ["one", "power", "total", "_"]
theorem sc_ratio_power : FnScope N_ratio_power ["one", "power"] (defScope s_ratio_power) := ⟨rfl, rfl, rfl, by decide +kernel, rfl, by decide +kernel, by decide +kernel⟩
abbrev s__law_times : Stmt := top 27
abbrev N__law_times : List Str := ["_law_a", "_law_b"]
theorem sc__law_times : FnScope N__law_times ["_law_a", "_law_b"] (defScope s__law_times) := ⟨rfl, rfl, rfl, by decide +kernel, rfl, by decide +kernel, by decide +kernel⟩
abbrev s__law_plus : Stmt := top 26
abbrev N__law_plus : List Str := ["_law_a", "_law_b"]
theorem sc__law_plus : FnScope N__law_plus ["_law_a", "_law_b"] (defScope s__law_plus) := ⟨rfl, rfl, rfl, by decide +kernel, rfl, by decide +kernel, by decide +kernel⟩
abbrev s_ratio_over : Stmt := top 15
abbrev N_ratio_over : List Str := ["one", "other"]
theorem sc_ratio_over : FnScope N_ratio_over ["one", "other"] (defScope s_ratio_over) := ⟨rfl, rfl, rfl, by decide +kernel, rfl, by decide +kernel, by decide +kernel⟩
abbrev s__law_divided : Stmt := top 32
abbrev N__law_divided : List Str := ["_law_one", "_law_other"]
theorem sc__law_divided : FnScope N__law_divided ["_law_one", "_law_other"] (defScope s__law_divided) := ⟨rfl, rfl, rfl, by decide +kernel, rfl, by decide +kernel, by decide +kernel⟩
abbrev s_ratio_compare : Stmt := top 18
abbrev N_ratio_compare : List Str := ["one", "other", "here", "there"]
theorem sc_ratio_compare : FnScope N_ratio_compare ["one", "other"] (defScope s_ratio_compare) := ⟨rfl, rfl, rfl, by decide +kernel, rfl, by decide +kernel, by decide +kernel⟩
abbrev s_ratio_text : Stmt := top 19
abbrev N_ratio_text : List Str := ["one"]
theorem sc_ratio_text : FnScope N_ratio_text ["one"] (defScope s_ratio_text) := ⟨rfl, rfl, rfl, by decide +kernel, rfl, by decide +kernel, by decide +kernel⟩
abbrev s__law_text : Stmt := top 33
abbrev N__law_text : List Str := ["_law_one"]
theorem sc__law_text : FnScope N__law_text ["_law_one"] (defScope s__law_text) := ⟨rfl, rfl, rfl, by decide +kernel, rfl, by decide +kernel, by decide +kernel⟩
abbrev s_law : Stmt := top 37
abbrev N_law : List Str := ["_law_script", "_law_hand", "_law_a", "_law_b", "_law_c", "_law_d", "_law_power", "_law_one", "_law_other", "_law_less", "_law_found", "_law_due", "_law_whole", "_law_step", "_law_gap", "_law_order", "_law_item"]
theorem sc_law : FnScope N_law ["_law_script"] (defScope s_law) := ⟨rfl, rfl, rfl, by decide +kernel, rfl, by decide +kernel, by decide +kernel⟩
abbrev si_BadRatio : Stmt := inClass (top 3) 0
theorem sci_BadRatio : FnScope ["self", "what"] ["self", "what"] (defScope si_BadRatio) := ⟨rfl, rfl, rfl, by decide +kernel, rfl, by decide +kernel, by decide +kernel⟩
abbrev si_DividedByNought : Stmt := inClass (top 4) 0
theorem sci_DividedByNought : FnScope ["self"] ["self"] (defScope si_DividedByNought) := ⟨rfl, rfl, rfl, by decide +kernel, rfl, by decide +kernel, by decide +kernel⟩
def k_ZERO : PD := (.tup [(.int 0), (.int 1)])
def k_ONE : PD := (.tup [(.int 1), (.int 1)])
def isA_BadRatio : Nat → Option Bool
  | 1 => some true
  | 2 => some false
  | _ => none
def isA_DividedByNought : Nat → Option Bool
  | 1 => some false
  | 2 => some true
  | _ => none
def gdd_is_whole_1_low_high (ds es : List D) : List D := match ds, es with
  | [x0], [z0, z1] => [x0, z0, z1]
  | _, _ => []
def ggg_is_whole_1_low_high {α : Type} (us its ws : List α) : List α := match us, its, ws with
  | [x0], [y0, y1], [z0, z1] => [x0, z0, z1]
  | _, _, _ => []
def gdd_is_whole_1_high (ds es : List D) : List D := match ds, es with
  | [x0], [z0] => [x0, (.p (.non)), z0]
  | _, _ => []
def ggg_is_whole_1_high {α : Type} (us its ws : List α) : List α := match us, its, ws with
  | [x0], [y0, y1], [z0] => [x0, y0, z0]
  | _, _, _ => []
def b1__law_start : DS → SR := (sSet 1 (mBin fMod (mCB fInt (mCons (mBin fAdd (mBin fMul (mVar 1) (mC (.int 37))) (mCB fInt (mCons (mVar 2) mNil))) mNil)) (mC (.int 2147483629))))
def e1__law_start : DS → ER D := (mCB fInt (mCons (mVar 2) mNil))
def l1__law_start : DS → ER D := (mLc (mItl (mVar 0)) (tgName 2) mYes e1__law_start [2])
def m__law_start : DS → SR := (sSeq (sSet 1 (mC (.int 0)))
    (sSeq (sFor (mItl (mVar 0)) (tgName 2) b1__law_start)
    (sRet (mLst (mCons l1__law_start (mCons (mC (.int 0)) (mCons (mC (.int 0)) (mCons (mC (.int 0)) (mCons (mVar 1) mNil)))))))))
def f__law_start : Fn := runF 3 [false] true m__law_start
def m__law_mixed : DS → SR := (sSeq (sSet 2 (mBin fMod (mCB fInt (mCons (mBin fAdd (mBin fAdd (mBin fMul (mVar 0) (mC (.int 48271))) (mBin fMul (mVar 1) (mC (.int 69621)))) (mC (.int 17))) mNil)) (mC (.int 2147483647))))
    (sSeq (sSet 3 (mBin fMod (mCB fInt (mCons (mBin fAdd (mBin fAdd (mBin fMul (mVar 2) (mVar 2)) (mBin fMul (mVar 1) (mC (.int 40692)))) (mC (.int 5))) mNil)) (mC (.int 2147483399))))
    (sRet (mBin fDiv (mBin fMod (mCB fInt (mCons (mBin fAdd (mBin fMul (mVar 3) (mVar 3)) (mBin fMul (mVar 2) (mC (.int 16807)))) mNil)) (mC (.int 2147483563))) (mC (.int 32))))))
def f__law_mixed : Fn := runF 4 [false, false] false m__law_mixed
def m__law_draw : DS → SR := (sSeq (sSetItem (mBin fAdd (mBin fIx (mVar 0) (mC (.int 3))) (mC (.int 1))) (mVar 0) (mC (.int 3)))
    (sSeq (sIf (mAndT (mTest (mBin fEq (mBin fIx (mVar 0) (mC (.int 2))) (mC (.int 0)))) (mTest (mBin fLt (mBin fIx (mVar 0) (mC (.int 1))) (mCB fLen (mCons (mBin fIx (mVar 0) (mC (.int 0))) mNil))))) (sSeq (sSet 2 (mBin fIx (mBin fIx (mVar 0) (mC (.int 0))) (mBin fIx (mVar 0) (mC (.int 1)))))
    (sSeq (sSetItem (mBin fAdd (mBin fIx (mVar 0) (mC (.int 1))) (mC (.int 1))) (mVar 0) (mC (.int 1)))
    (sSeq (sIf (mTest (mBin fLt (mCB fAbs (mCons (mVar 2) mNil)) (mBin fPow (mC (.int 10)) (mC (.int 18))))) (sRet (mBin fMod (mCB fInt (mCons (mCall [false, false] f__law_mixed (mCons (mVar 2) (mCons (mBin fIx (mVar 0) (mC (.int 3))) mNil))) mNil)) (mVar 1))) sNext)
    (sSetItem (mCB fAbs (mCons (mVar 2) mNil)) (mVar 0) (mC (.int 2)))))) sNext)
    (sSeq (sIf (mTest (mBin fGt (mBin fIx (mVar 0) (mC (.int 2))) (mC (.int 0)))) (sSeq (sSet 3 (mBin fMod (mCB fInt (mCons (mBin fIx (mVar 0) (mC (.int 2))) mNil)) (mVar 1)))
    (sSeq (sSetItem (mBin fDiv (mBin fIx (mVar 0) (mC (.int 2))) (mVar 1)) (mVar 0) (mC (.int 2)))
    (sRet (mVar 3)))) sNext)
    (sRet (mBin fMod (mCB fInt (mCons (mCall [false, false] f__law_mixed (mCons (mBin fIx (mVar 0) (mC (.int 4))) (mCons (mBin fIx (mVar 0) (mC (.int 3))) mNil))) mNil)) (mVar 1))))))
def f__law_draw : Fn := runF 4 [true, false] false m__law_draw
def m__law_number : DS → SR := (sSeq (sSet 1 (mCall [true, false] f__law_draw (mCons (mVar 0) (mCons (mC (.int 4)) mNil))))
    (sSeq (sSet 2 (mBin fSub (mC (.int 1)) (mBin fMul (mC (.int 2)) (mCall [true, false] f__law_draw (mCons (mVar 0) (mCons (mC (.int 2)) mNil))))))
    (sSeq (sIf (mTest (mBin fEq (mVar 1) (mC (.int 0)))) (sRet (mBin fMul (mVar 2) (mCall [true, false] f__law_draw (mCons (mVar 0) (mCons (mC (.int 3)) mNil))))) sNext)
    (sSeq (sIf (mTest (mBin fEq (mVar 1) (mC (.int 1)))) (sRet (mBin fMul (mVar 2) (mCall [true, false] f__law_draw (mCons (mVar 0) (mCons (mC (.int 13)) mNil))))) sNext)
    (sSeq (sIf (mTest (mBin fEq (mVar 1) (mC (.int 2)))) (sRet (mBin fMul (mVar 2) (mCall [true, false] f__law_draw (mCons (mVar 0) (mCons (mBin fPow (mC (.int 10)) (mC (.int 6))) mNil))))) sNext)
    (sRet (mBin fMul (mVar 2) (mBin fAdd (mBin fMul (mCall [true, false] f__law_draw (mCons (mVar 0) (mCons (mBin fPow (mC (.int 10)) (mC (.int 15))) mNil))) (mBin fPow (mC (.int 10)) (mC (.int 15)))) (mCall [true, false] f__law_draw (mCons (mVar 0) (mCons (mBin fPow (mC (.int 10)) (mC (.int 15))) mNil)))))))))))
def f__law_number : Fn := runF 3 [true] false m__law_number
def m_is_whole : DS → SR := (sSeq (sIf (mOrT (mNotT (mTru (mb (mVar 0) (fIsi "int")))) (mTru (mb (mVar 0) (fIsi "bool")))) (sRet (mC (.bl false))) sNext)
    (sSeq (sIf (mAndT (mTest (mBin fIsNot (mVar 1) (mC .non))) (mTest (mBin fLt (mVar 0) (mVar 1)))) (sRet (mC (.bl false))) sNext)
    (sRet (mOr (mBin fIs (mVar 2) (mC .non)) (mBin fLe (mVar 0) (mVar 2))))))
def f_is_whole : Fn := runF 3 [false, false, false] false m_is_whole
def m_lowest : DS → SR := (sSeq (sSet 2 (mCB fGcd (mCons (mVar 0) (mCons (mVar 1) mNil))))
    (sSeq (sIf (mTest (mBin fLt (mVar 1) (mC (.int 0)))) (sSet 2 (mUn fNeg (mVar 2))) sNext)
    (sRet (mTup (mCons (mBin fDiv (mVar 0) (mVar 2)) (mCons (mBin fDiv (mVar 1) (mVar 2)) mNil))))))
def f_lowest : Fn := runF 3 [false, false] false m_lowest
def m_make_ratio : DS → SR := (sSeq (sIf (mNotT (mTru (mCallD [false, false, false] f_is_whole [.non, .non] (mCons (mVar 0) mNil)))) (sRaise 1 ["what"] (mCons (mC (.str "top")) mNil)) sNext)
    (sSeq (sIf (mOrT (mNotT (mTru (mCallD [false, false, false] f_is_whole [.non, .non] (mCons (mVar 1) mNil)))) (mTest (mBin fEq (mVar 1) (mC (.int 0))))) (sRaise 1 ["what"] (mCons (mC (.str "bottom")) mNil)) sNext)
    (sRet (mCall [false, false] f_lowest (mCons (mVar 0) (mCons (mVar 1) mNil))))))
def f_make_ratio : Fn := runF 2 [false, false] false m_make_ratio
def m__law_made : DS → SR := (sTryAs isA_BadRatio 2 (sRet (mTup (mCons (mC (.str "made")) (mCons (mCallD [false, false] f_make_ratio [] (mCons (mVar 0) (mCons (mVar 1) mNil))) mNil)))) (sRet (mTup (mCons (mC (.str "refused")) (mCons (mXf 1 "what") mNil)))))
def f__law_made : Fn := runF 3 [false, false] false m__law_made
def b1__law_gcd : DS → SR := (sSeq (sIf (mTest (mBin fEq (mVar 1) (mC (.int 0)))) sBreak sNext)
    (sPar 0 1 (mCons (mVar 1) (mCons (mBin fMod (mCB fInt (mCons (mVar 0) mNil)) (mVar 1)) mNil))))
def m__law_gcd : DS → SR := (sSeq (sSet 0 (mCB fAbs (mCons (mVar 0) mNil)))
    (sSeq (sSet 1 (mCB fAbs (mCons (mVar 1) mNil)))
    (sSeq (sFor (mb (mCons (mC (.int 9000)) mNil) fRng1) (tgName 2) b1__law_gcd)
    (sRet (mVar 0)))))
def f__law_gcd : Fn := runF 3 [false, false] false m__law_gcd
def m__law_ratio : DS → SR := (sSeq (sIf (mTest (mBin fLt (mVar 1) (mC (.int 0)))) (sSeq (sSet 0 (mUn fNeg (mVar 0)))
    (sSet 1 (mUn fNeg (mVar 1)))) sNext)
    (sSeq (sSet 2 (mCall [false, false] f__law_gcd (mCons (mVar 0) (mCons (mVar 1) mNil))))
    (sRet (mTup (mCons (mBin fDiv (mVar 0) (mVar 2)) (mCons (mBin fDiv (mVar 1) (mVar 2)) mNil))))))
def f__law_ratio : Fn := runF 3 [false, false] false m__law_ratio
def e1__law_is_ratio : DS → ER D := (mAnd (mb (mVar 1) (fIsi "int")) (mNot (mb (mVar 1) (fIsi "bool"))))
def l1__law_is_ratio : DS → ER D := (mLc (mItt (mVar 0)) (tgName 1) mYes e1__law_is_ratio [1])
def m__law_is_ratio : DS → SR := (sSeq (sIf (mOrT (mNotT (mTru (mb (mVar 0) (fIsi "tuple")))) (mTest (mBin fNe (mCB fLen (mCons (mVar 0) mNil)) (mC (.int 2))))) (sRet (mC (.bl false))) sNext)
    (sRet (mCB fAll (mCons l1__law_is_ratio mNil))))
def f__law_is_ratio : Fn := runF 2 [false] false m__law_is_ratio
def m__law_made_rightly : DS → SR := (sSeq (sIf (mTest (mBin fEq (mVar 1) (mC (.int 0)))) (sRet (mBin fEq (mCall [false, false] f__law_made (mCons (mVar 0) (mCons (mVar 1) mNil))) (mTup (mCons (mC (.str "refused")) (mCons (mC (.str "bottom")) mNil))))) sNext)
    (sSeq (sSet 2 (mCall [false, false] f__law_made (mCons (mVar 0) (mCons (mVar 1) mNil))))
    (sRet (mAnd (mBin fEq (mVar 2) (mTup (mCons (mC (.str "made")) (mCons (mCall [false, false] f__law_ratio (mCons (mVar 0) (mCons (mVar 1) mNil))) mNil)))) (mCall [false] f__law_is_ratio (mCons (mBin fIx (mVar 2) (mC (.int 1))) mNil))))))
def f__law_made_rightly : Fn := runF 3 [false, false] false m__law_made_rightly
def m_is_ratio : DS → SR := (sSeq (sIf (mOrT (mNotT (mTru (mb (mVar 0) (fIsi "tuple")))) (mTest (mBin fNe (mCB fLen (mCons (mVar 0) mNil)) (mC (.int 2))))) (sRet (mC (.bl false))) sNext)
    (sSeq (sIf (mOrT (mNotT (mTru (mCallD [false, false, false] f_is_whole [.non, .non] (mCons (mBin fIx (mVar 0) (mC (.int 0))) mNil)))) (mNotT (mTru (mCallD [false, false, false] f_is_whole [.non] (mCons (mBin fIx (mVar 0) (mC (.int 1))) (mCons (mC (.int 1)) mNil)))))) (sRet (mC (.bl false))) sNext)
    (sRet (mBin fEq (mCB fGcd (mCons (mBin fIx (mVar 0) (mC (.int 0))) (mCons (mBin fIx (mVar 0) (mC (.int 1))) mNil))) (mC (.int 1))))))
def f_is_ratio : Fn := runF 1 [false] false m_is_ratio
def m__law_told : DS → SR := (sRet (mIf (mTru (mVar 1)) (mBin fIs (mVar 0) (mC (.bl true))) (mBin fIs (mVar 0) (mC (.bl false)))))
def f__law_told : Fn := runF 2 [false, false] false m__law_told
def b1__law_odd_rightly : DS → SR := (sSeq (sIf (mOrT (mTest (mBin fNe (mCall [false, false] f__law_made (mCons (mVar 3) (mCons (mC (.int 0)) mNil))) (mTup (mCons (mC (.str "refused")) (mCons (mC (.str "top")) mNil))))) (mTest (mBin fNe (mCall [false, false] f__law_made (mCons (mVar 0) (mCons (mVar 3) mNil))) (mTup (mCons (mC (.str "refused")) (mCons (mC (.str "bottom")) mNil)))))) (sRet (mC (.bl false))) sNext)
    (sSeq (sIf (mOrT (mTest (mBin fIsNot (mCallD [false, false, false] f_is_whole [.non, .non] (mCons (mVar 3) mNil)) (mC (.bl false)))) (mOrT (mTest (mBin fIsNot (mCall [false] f_is_ratio (mCons (mVar 3) mNil)) (mC (.bl false)))) (mTest (mBin fIsNot (mCall [false] f_is_ratio (mCons (mTup (mCons (mVar 0) (mCons (mVar 3) mNil))) mNil)) (mC (.bl false)))))) (sRet (mC (.bl false))) sNext)
    (sIf (mOrT (mTest (mBin fIsNot (mCall [false] f_is_ratio (mCons (mTup (mCons (mVar 3) (mCons (mC (.int 1)) mNil))) mNil)) (mC (.bl false)))) (mTest (mBin fIsNot (mCallD [false, false, false] f_is_whole [.non] (mCons (mVar 3) (mCons (mC (.int 0)) mNil))) (mC (.bl false))))) (sRet (mC (.bl false))) sNext)))
def m__law_odd_rightly : DS → SR := (sSeq (sSet 2 (mLst (mCons (mC (.bl true)) (mCons (mC .non) (mCons (mC (.str "1")) (mCons (mTup (mCons (mC (.int 1)) mNil)) (mCons (mLst (mCons (mC (.int 1)) mNil)) mNil)))))))
    (sSeq (sFor (mItl (mVar 2)) (tgName 3) b1__law_odd_rightly)
    (sSeq (sSet 4 (mAnd (mBin fGe (mVar 1) (mC (.int 1))) (mBin fEq (mCall [false, false] f__law_gcd (mCons (mVar 0) (mCons (mVar 1) mNil))) (mC (.int 1)))))
    (sSeq (sIf (mOrT (mNotT (mTru (mCall [false, false] f__law_told (mCons (mCall [false] f_is_ratio (mCons (mTup (mCons (mVar 0) (mCons (mVar 1) mNil))) mNil)) (mCons (mVar 4) mNil))))) (mOrT (mTest (mBin fIsNot (mCall [false] f_is_ratio (mCons (mLst (mCons (mVar 0) (mCons (mVar 1) mNil))) mNil)) (mC (.bl false)))) (mTest (mBin fIsNot (mCall [false] f_is_ratio (mCons (mTup (mCons (mVar 0) (mCons (mVar 1) (mCons (mC (.int 1)) mNil)))) mNil)) (mC (.bl false)))))) (sRet (mC (.bl false))) sNext)
    (sRet (mAnd (mBin fIs (mCall [false] f_is_ratio (mCons (mTup (mCons (mVar 0) (mCons (mC (.int 1)) mNil))) mNil)) (mC (.bl true))) (mAnd (mBin fIs (mCall [false] f_is_ratio (mCons (mTup (mCons (mVar 0) (mCons (mUn fNeg (mC (.int 1))) mNil))) mNil)) (mC (.bl false))) (mBin fIs (mCall [false] f_is_ratio (mCons (mTup (mCons (mBin fMul (mC (.int 2)) (mVar 0)) (mCons (mC (.int 2)) mNil))) mNil)) (mC (.bl false))))))))))
def f__law_odd_rightly : Fn := runF 5 [false, false] false m__law_odd_rightly
def m__law_whole_rightly : DS → SR := (sSeq (sIf (mOrT (mTest (mBin fIsNot (mCallD [false, false, false] f_is_whole [.non, .non] (mCons (mVar 0) mNil)) (mC (.bl true)))) (mNotT (mTru (mCall [false, false] f__law_told (mCons (mCallD [false, false, false] f_is_whole [.non] (mCons (mVar 0) (mCons (mVar 1) mNil))) (mCons (mBin fLe (mVar 1) (mVar 0)) mNil)))))) (sRet (mC (.bl false))) sNext)
    (sSeq (sIf (mNotT (mTru (mCall [false, false] f__law_told (mCons (mCallD [false, false, false] f_is_whole [] (mCons (mVar 0) (mCons (mC .non) (mCons (mVar 2) mNil)))) (mCons (mBin fLe (mVar 0) (mVar 2)) mNil))))) (sRet (mC (.bl false))) sNext)
    (sSeq (sIf (mNotT (mTru (mCall [false, false] f__law_told (mCons (mKw [false, false, false] f_is_whole 1 2 gdd_is_whole_1_low_high (mCons (mVar 0) mNil) (mCons (mVar 1) (mCons (mVar 2) mNil))) (mCons (mAnd (mBin fLe (mVar 1) (mVar 0)) (mBin fLe (mVar 0) (mVar 2))) mNil))))) (sRet (mC (.bl false))) sNext)
    (sRet (mAnd (mBin fIs (mCallD [false, false, false] f_is_whole [] (mCons (mVar 0) (mCons (mVar 0) (mCons (mVar 0) mNil)))) (mC (.bl true))) (mAnd (mBin fIs (mCallD [false, false, false] f_is_whole [.non] (mCons (mVar 0) (mCons (mBin fAdd (mVar 0) (mC (.int 1))) mNil))) (mC (.bl false))) (mBin fIs (mKw [false, false, false] f_is_whole 1 1 gdd_is_whole_1_high (mCons (mVar 0) mNil) (mCons (mBin fSub (mVar 0) (mC (.int 1))) mNil)) (mC (.bl false)))))))))
def f__law_whole_rightly : Fn := runF 3 [false, false, false] false m__law_whole_rightly
def m_ratio_negative : DS → SR := (sRet (mTup (mCons (mUn fNeg (mBin fIx (mVar 0) (mC (.int 0)))) (mCons (mBin fIx (mVar 0) (mC (.int 1))) mNil))))
def f_ratio_negative : Fn := runF 1 [false] false m_ratio_negative
def m_ratio_times : DS → SR := (sSeq (sIf (mAndT (mTest (mBin fEq (mBin fIx (mVar 0) (mC (.int 1))) (mC (.int 1)))) (mTest (mBin fEq (mBin fIx (mVar 1) (mC (.int 1))) (mC (.int 1))))) (sRet (mTup (mCons (mBin fMul (mBin fIx (mVar 0) (mC (.int 0))) (mBin fIx (mVar 1) (mC (.int 0)))) (mCons (mC (.int 1)) mNil)))) sNext)
    (sRet (mCall [false, false] f_lowest (mCons (mBin fMul (mBin fIx (mVar 0) (mC (.int 0))) (mBin fIx (mVar 1) (mC (.int 0)))) (mCons (mBin fMul (mBin fIx (mVar 0) (mC (.int 1))) (mBin fIx (mVar 1) (mC (.int 1)))) mNil)))))
def f_ratio_times : Fn := runF 2 [false, false] false m_ratio_times
def m_ratio_minus : DS → SR := (sSeq (sIf (mAndT (mTest (mBin fEq (mBin fIx (mVar 0) (mC (.int 1))) (mC (.int 1)))) (mTest (mBin fEq (mBin fIx (mVar 1) (mC (.int 1))) (mC (.int 1))))) (sRet (mTup (mCons (mBin fSub (mBin fIx (mVar 0) (mC (.int 0))) (mBin fIx (mVar 1) (mC (.int 0)))) (mCons (mC (.int 1)) mNil)))) sNext)
    (sRet (mCall [false, false] f_lowest (mCons (mBin fSub (mBin fMul (mBin fIx (mVar 0) (mC (.int 0))) (mBin fIx (mVar 1) (mC (.int 1)))) (mBin fMul (mBin fIx (mVar 1) (mC (.int 0))) (mBin fIx (mVar 0) (mC (.int 1))))) (mCons (mBin fMul (mBin fIx (mVar 0) (mC (.int 1))) (mBin fIx (mVar 1) (mC (.int 1)))) mNil)))))
def f_ratio_minus : Fn := runF 2 [false, false] false m_ratio_minus
def m_ratio_plus : DS → SR := (sSeq (sIf (mAndT (mTest (mBin fEq (mBin fIx (mVar 0) (mC (.int 1))) (mC (.int 1)))) (mTest (mBin fEq (mBin fIx (mVar 1) (mC (.int 1))) (mC (.int 1))))) (sRet (mTup (mCons (mBin fAdd (mBin fIx (mVar 0) (mC (.int 0))) (mBin fIx (mVar 1) (mC (.int 0)))) (mCons (mC (.int 1)) mNil)))) sNext)
    (sRet (mCall [false, false] f_lowest (mCons (mBin fAdd (mBin fMul (mBin fIx (mVar 0) (mC (.int 0))) (mBin fIx (mVar 1) (mC (.int 1)))) (mBin fMul (mBin fIx (mVar 1) (mC (.int 0))) (mBin fIx (mVar 0) (mC (.int 1))))) (mCons (mBin fMul (mBin fIx (mVar 0) (mC (.int 1))) (mBin fIx (mVar 1) (mC (.int 1)))) mNil)))))
def f_ratio_plus : Fn := runF 2 [false, false] false m_ratio_plus
def b1_ratio_power : DS → SR := (sSet 2 (mCall [false, false] f_ratio_times (mCons (mVar 2) (mCons (mVar 0) mNil))))
def m_ratio_power : DS → SR := (sSeq (sSet 2 (mC k_ONE))
    (sSeq (sFor (mb (mCons (mVar 1) mNil) fRng1) (tgName 3) b1_ratio_power)
    (sRet (mVar 2))))
def f_ratio_power : Fn := runF 4 [false, false] false m_ratio_power
def m__law_times : DS → SR := (sRet (mCall [false, false] f__law_ratio (mCons (mBin fMul (mBin fIx (mVar 0) (mC (.int 0))) (mBin fIx (mVar 1) (mC (.int 0)))) (mCons (mBin fMul (mBin fIx (mVar 0) (mC (.int 1))) (mBin fIx (mVar 1) (mC (.int 1)))) mNil))))
def f__law_times : Fn := runF 2 [false, false] false m__law_times
def m__law_plus : DS → SR := (sRet (mCall [false, false] f__law_ratio (mCons (mBin fAdd (mBin fMul (mBin fIx (mVar 0) (mC (.int 0))) (mBin fIx (mVar 1) (mC (.int 1)))) (mBin fMul (mBin fIx (mVar 1) (mC (.int 0))) (mBin fIx (mVar 0) (mC (.int 1))))) (mCons (mBin fMul (mBin fIx (mVar 0) (mC (.int 1))) (mBin fIx (mVar 1) (mC (.int 1)))) mNil))))
def f__law_plus : Fn := runF 2 [false, false] false m__law_plus
def m_ratio_over : DS → SR := (sSeq (sIf (mTest (mBin fEq (mBin fIx (mVar 1) (mC (.int 0))) (mC (.int 0)))) (sRaise0 2) sNext)
    (sRet (mCall [false, false] f_lowest (mCons (mBin fMul (mBin fIx (mVar 0) (mC (.int 0))) (mBin fIx (mVar 1) (mC (.int 1)))) (mCons (mBin fMul (mBin fIx (mVar 0) (mC (.int 1))) (mBin fIx (mVar 1) (mC (.int 0)))) mNil)))))
def f_ratio_over : Fn := runF 2 [false, false] false m_ratio_over
def m__law_divided : DS → SR := (sTry isA_DividedByNought (sRet (mTup (mCons (mC (.str "made")) (mCons (mCall [false, false] f_ratio_over (mCons (mVar 0) (mCons (mVar 1) mNil))) mNil)))) (sRet (mTup (mCons (mC (.str "refused")) (mCons (mC (.str "")) mNil)))))
def f__law_divided : Fn := runF 2 [false, false] false m__law_divided
def m_ratio_compare : DS → SR := (sSeq (sSet 2 (mBin fMul (mBin fIx (mVar 0) (mC (.int 0))) (mBin fIx (mVar 1) (mC (.int 1)))))
    (sSeq (sSet 3 (mBin fMul (mBin fIx (mVar 1) (mC (.int 0))) (mBin fIx (mVar 0) (mC (.int 1)))))
    (sSeq (sIf (mTest (mBin fLt (mVar 2) (mVar 3))) (sRet (mUn fNeg (mC (.int 1)))) sNext)
    (sRet (mIf (mTest (mBin fGt (mVar 2) (mVar 3))) (mC (.int 1)) (mC (.int 0)))))))
def f_ratio_compare : Fn := runF 4 [false, false] false m_ratio_compare
def m_ratio_text : DS → SR := (sSeq (sIf (mTest (mBin fEq (mBin fIx (mVar 0) (mC (.int 1))) (mC (.int 1)))) (sRet (mCB fStr (mCons (mBin fIx (mVar 0) (mC (.int 0))) mNil))) sNext)
    (sRet (mBin fAdd (mBin fAdd (mCB fStr (mCons (mBin fIx (mVar 0) (mC (.int 0))) mNil)) (mC (.str "/"))) (mCB fStr (mCons (mBin fIx (mVar 0) (mC (.int 1))) mNil)))))
def f_ratio_text : Fn := runF 1 [false] false m_ratio_text
def m__law_text : DS → SR := (sRet (mIf (mTest (mBin fEq (mBin fIx (mVar 0) (mC (.int 1))) (mC (.int 1)))) (mCB fStr (mCons (mBin fIx (mVar 0) (mC (.int 0))) mNil)) (mBin fAdd (mBin fAdd (mCB fStr (mCons (mBin fIx (mVar 0) (mC (.int 0))) mNil)) (mC (.str "/"))) (mCB fStr (mCons (mBin fIx (mVar 0) (mC (.int 1))) mNil)))))
def f__law_text : Fn := runF 1 [false] false m__law_text
def b1_law : DS → SR := (sSet 12 (mCall [false, false] f__law_times (mCons (mVar 12) (mCons (mVar 7) mNil))))
def e1_law : DS → ER D := (mCall [false] f__law_is_ratio (mCons (mVar 16) mNil))
def l1_law : DS → ER D := (mLc (mItl (mVar 10)) (tgName 16) mYes e1_law [16])
def m_law : DS → SR := (sSeq (sSet 1 (mCall [false] f__law_start (mCons (mVar 0) mNil)))
    (sSeq (sSet 2 (mCall [true] f__law_number (mCons (mVar 1) mNil)))
    (sSeq (sSet 3 (mCall [true] f__law_number (mCons (mVar 1) mNil)))
    (sSeq (sSet 4 (mCall [true] f__law_number (mCons (mVar 1) mNil)))
    (sSeq (sSet 5 (mCall [true] f__law_number (mCons (mVar 1) mNil)))
    (sSeq (sSet 6 (mCall [true, false] f__law_draw (mCons (mVar 1) (mCons (mC (.int 6)) mNil))))
    (sSeq (sIf (mOrT (mNotT (mTru (mCall [false, false] f__law_made_rightly (mCons (mVar 2) (mCons (mVar 3) mNil))))) (mOrT (mNotT (mTru (mCall [false, false] f__law_made_rightly (mCons (mVar 4) (mCons (mVar 5) mNil))))) (mNotT (mTru (mCall [false, false] f__law_odd_rightly (mCons (mVar 2) (mCons (mVar 3) mNil))))))) (sRet (mC (.bl false))) sNext)
    (sSeq (sIf (mOrT (mNotT (mTru (mCall [false, false, false] f__law_whole_rightly (mCons (mVar 2) (mCons (mVar 4) (mCons (mVar 5) mNil)))))) (mOrT (mTest (mBin fNe (mCallD [false, false] f_make_ratio [.int 1] (mCons (mVar 4) mNil)) (mTup (mCons (mVar 4) (mCons (mC (.int 1)) mNil))))) (mOrT (mTest (mBin fNe (mC k_ZERO) (mTup (mCons (mC (.int 0)) (mCons (mC (.int 1)) mNil))))) (mTest (mBin fNe (mC k_ONE) (mTup (mCons (mC (.int 1)) (mCons (mC (.int 1)) mNil)))))))) (sRet (mC (.bl false))) sNext)
    (sSeq (sSet 7 (mCall [false, false] f__law_ratio (mCons (mVar 2) (mCons (mIf (mTest (mBin fNe (mVar 3) (mC (.int 0)))) (mVar 3) (mC (.int 1))) mNil))))
    (sSeq (sSet 8 (mCall [false, false] f__law_ratio (mCons (mVar 4) (mCons (mIf (mTest (mBin fNe (mVar 5) (mC (.int 0)))) (mVar 5) (mC (.int 1))) mNil))))
    (sSeq (sSet 9 (mTup (mCons (mUn fNeg (mBin fIx (mVar 8) (mC (.int 0)))) (mCons (mBin fIx (mVar 8) (mC (.int 1))) mNil))))
    (sSeq (sSet 10 (mLst (mCons (mCall [false, false] f_ratio_plus (mCons (mVar 7) (mCons (mVar 8) mNil))) (mCons (mCall [false, false] f_ratio_minus (mCons (mVar 7) (mCons (mVar 8) mNil))) (mCons (mCall [false, false] f_ratio_times (mCons (mVar 7) (mCons (mVar 8) mNil))) (mCons (mCall [false] f_ratio_negative (mCons (mVar 7) mNil)) mNil))))))
    (sSeq (sExpr (mBM fAppend (mVar 10) (mCons (mCall [false, false] f_ratio_power (mCons (mVar 7) (mCons (mVar 6) mNil))) mNil)))
    (sSeq (sSet 11 (mLst (mCons (mCall [false, false] f__law_plus (mCons (mVar 7) (mCons (mVar 8) mNil))) (mCons (mCall [false, false] f__law_plus (mCons (mVar 7) (mCons (mVar 9) mNil))) (mCons (mCall [false, false] f__law_times (mCons (mVar 7) (mCons (mVar 8) mNil))) (mCons (mTup (mCons (mUn fNeg (mBin fIx (mVar 7) (mC (.int 0)))) (mCons (mBin fIx (mVar 7) (mC (.int 1))) mNil))) mNil))))))
    (sSeq (sSet 12 (mTup (mCons (mC (.int 1)) (mCons (mC (.int 1)) mNil))))
    (sSeq (sFor (mb (mCons (mVar 6) mNil) fRng1) (tgName 13) b1_law)
    (sSeq (sExpr (mBM fAppend (mVar 11) (mCons (mVar 12) mNil)))
    (sSeq (sIf (mOrT (mTest (mBin fNe (mVar 10) (mVar 11))) (mNotT (mTru (mCB fAll (mCons l1_law mNil))))) (sRet (mC (.bl false))) sNext)
    (sSeq (sIf (mTest (mBin fEq (mBin fIx (mVar 8) (mC (.int 0))) (mC (.int 0)))) (sIf (mTest (mBin fNe (mCall [false, false] f__law_divided (mCons (mVar 7) (mCons (mVar 8) mNil))) (mTup (mCons (mC (.str "refused")) (mCons (mC (.str "")) mNil))))) (sRet (mC (.bl false))) sNext) (sIf (mTest (mBin fNe (mCall [false, false] f__law_divided (mCons (mVar 7) (mCons (mVar 8) mNil))) (mTup (mCons (mC (.str "made")) (mCons (mCall [false, false] f__law_ratio (mCons (mBin fMul (mBin fIx (mVar 7) (mC (.int 0))) (mBin fIx (mVar 8) (mC (.int 1)))) (mCons (mBin fMul (mBin fIx (mVar 7) (mC (.int 1))) (mBin fIx (mVar 8) (mC (.int 0)))) mNil))) mNil))))) (sRet (mC (.bl false))) sNext))
    (sSeq (sSet 14 (mBin fSub (mBin fMul (mBin fIx (mVar 7) (mC (.int 0))) (mBin fIx (mVar 8) (mC (.int 1)))) (mBin fMul (mBin fIx (mVar 8) (mC (.int 0))) (mBin fIx (mVar 7) (mC (.int 1))))))
    (sSeq (sSet 15 (mC (.int 0)))
    (sSeq (sIf (mTest (mBin fNe (mVar 14) (mC (.int 0)))) (sSet 15 (mIf (mTest (mBin fGt (mVar 14) (mC (.int 0)))) (mC (.int 1)) (mUn fNeg (mC (.int 1))))) sNext)
    (sSeq (sIf (mOrT (mTest (mBin fNe (mCall [false, false] f_ratio_compare (mCons (mVar 7) (mCons (mVar 8) mNil))) (mVar 15))) (mOrT (mTest (mBin fNe (mCall [false, false] f_ratio_compare (mCons (mVar 8) (mCons (mVar 7) mNil))) (mUn fNeg (mVar 15)))) (mTest (mBin fNe (mCall [false, false] f_ratio_compare (mCons (mVar 7) (mCons (mVar 7) mNil))) (mC (.int 0)))))) (sRet (mC (.bl false))) sNext)
    (sRet (mAnd (mBin fEq (mCall [false] f_ratio_text (mCons (mVar 7) mNil)) (mCall [false] f__law_text (mCons (mVar 7) mNil))) (mBin fEq (mCall [false] f_ratio_text (mCons (mVar 8) mNil)) (mCall [false] f__law_text (mCons (mVar 8) mNil))))))))))))))))))))))))))))
def f_law : Fn := runF 17 [false] false m_law
structure Adr where
  a__law_start : Addr
  fd__law_start : FuncData
  a__law_mixed : Addr
  fd__law_mixed : FuncData
  a__law_draw : Addr
  fd__law_draw : FuncData
  a__law_number : Addr
  fd__law_number : FuncData
  a_is_whole : Addr
  fd_is_whole : FuncData
  a_lowest : Addr
  fd_lowest : FuncData
  a_make_ratio : Addr
  fd_make_ratio : FuncData
  a__law_made : Addr
  fd__law_made : FuncData
  a__law_gcd : Addr
  fd__law_gcd : FuncData
  a__law_ratio : Addr
  fd__law_ratio : FuncData
  a__law_is_ratio : Addr
  fd__law_is_ratio : FuncData
  a__law_made_rightly : Addr
  fd__law_made_rightly : FuncData
  a_is_ratio : Addr
  fd_is_ratio : FuncData
  a__law_told : Addr
  fd__law_told : FuncData
  a__law_odd_rightly : Addr
  fd__law_odd_rightly : FuncData
  a__law_whole_rightly : Addr
  fd__law_whole_rightly : FuncData
  a_ratio_negative : Addr
  fd_ratio_negative : FuncData
  a_ratio_times : Addr
  fd_ratio_times : FuncData
  a_ratio_minus : Addr
  fd_ratio_minus : FuncData
  a_ratio_plus : Addr
  fd_ratio_plus : FuncData
  a_ratio_power : Addr
  fd_ratio_power : FuncData
  a__law_times : Addr
  fd__law_times : FuncData
  a__law_plus : Addr
  fd__law_plus : FuncData
  a_ratio_over : Addr
  fd_ratio_over : FuncData
  a__law_divided : Addr
  fd__law_divided : FuncData
  a_ratio_compare : Addr
  fd_ratio_compare : FuncData
  a_ratio_text : Addr
  fd_ratio_text : FuncData
  a__law_text : Addr
  fd__law_text : FuncData
  a_law : Addr
  fd_law : FuncData
  c_BadRatio : Addr
  ai_BadRatio : Addr
  fi_BadRatio : FuncData
  c_DividedByNought : Addr
  ai_DividedByNought : Addr
  fi_DividedByNought : FuncData
  a_ZERO : Addr
  a_ONE : Addr
  ds_is_whole_1 : List Value
  ds_make_ratio_2 : List Value
  ds_is_whole_2 : List Value
  ds_is_whole_3 : List Value
  ds_make_ratio_1 : List Value
  ks_is_whole_1_low_high : List Value
  ks_is_whole_1_high : List Value
def cx (t : Adr) : Nat → Addr
  | 1 => t.c_BadRatio
  | 2 => t.c_DividedByNought
  | _ => 0
/-- what the top has written -/
structure Top (K : PySem.W.Frag) (mg : Str → Option Value) (t : Adr) : Prop where
  g__law_start : mg "_law_start" = some (.ref t.a__law_start)
  F__law_start : Fun K "_law_start" "_law_start" s__law_start t.a__law_start t.fd__law_start
  b__law_start : Binds K t.fd__law_start ["_law_script"] []
  g__law_mixed : mg "_law_mixed" = some (.ref t.a__law_mixed)
  F__law_mixed : Fun K "_law_mixed" "_law_mixed" s__law_mixed t.a__law_mixed t.fd__law_mixed
  b__law_mixed : Binds K t.fd__law_mixed ["_law_number_here", "_law_turn"] []
  g__law_draw : mg "_law_draw" = some (.ref t.a__law_draw)
  F__law_draw : Fun K "_law_draw" "_law_draw" s__law_draw t.a__law_draw t.fd__law_draw
  b__law_draw : Binds K t.fd__law_draw ["_law_hand", "_law_many"] []
  g__law_number : mg "_law_number" = some (.ref t.a__law_number)
  F__law_number : Fun K "_law_number" "_law_number" s__law_number t.a__law_number t.fd__law_number
  b__law_number : Binds K t.fd__law_number ["_law_hand"] []
  g_is_whole : mg "is_whole" = some (.ref t.a_is_whole)
  F_is_whole : FunD K "is_whole" "is_whole" (defArgs s_is_whole) (defBody s_is_whole) (defScope s_is_whole) [.non, .non] [] t.a_is_whole t.fd_is_whole
  b_is_whole_1 : Vals ([.non, .non] : List V) (t.ds_is_whole_1) ∧ Binds K t.fd_is_whole ["thing", "low", "high"] (t.ds_is_whole_1)
  b_is_whole_2 : Vals ([.non] : List V) (t.ds_is_whole_2) ∧ Binds K t.fd_is_whole ["thing", "low", "high"] (t.ds_is_whole_2)
  b_is_whole_3 : Vals ([] : List V) (t.ds_is_whole_3) ∧ Binds K t.fd_is_whole ["thing", "low", "high"] (t.ds_is_whole_3)
  kb_is_whole_1_low_high : KBn K t.fd_is_whole ["thing", "low", "high"] 1 ["low", "high"] (fun us ws => ggg_is_whole_1_low_high us t.ks_is_whole_1_low_high ws) (fun vs zs => ggg_is_whole_1_low_high vs ([.non, .non] : List V) zs)
  kb_is_whole_1_high : KBn K t.fd_is_whole ["thing", "low", "high"] 1 ["high"] (fun us ws => ggg_is_whole_1_high us t.ks_is_whole_1_high ws) (fun vs zs => ggg_is_whole_1_high vs ([.non, .non] : List V) zs)
  g_lowest : mg "lowest" = some (.ref t.a_lowest)
  F_lowest : Fun K "lowest" "lowest" s_lowest t.a_lowest t.fd_lowest
  b_lowest : Binds K t.fd_lowest ["top", "bottom"] []
  g_make_ratio : mg "make_ratio" = some (.ref t.a_make_ratio)
  F_make_ratio : FunD K "make_ratio" "make_ratio" (defArgs s_make_ratio) (defBody s_make_ratio) (defScope s_make_ratio) [.int 1] [] t.a_make_ratio t.fd_make_ratio
  b_make_ratio_2 : Vals ([] : List V) (t.ds_make_ratio_2) ∧ Binds K t.fd_make_ratio ["top", "bottom"] (t.ds_make_ratio_2)
  b_make_ratio_1 : Vals ([.int 1] : List V) (t.ds_make_ratio_1) ∧ Binds K t.fd_make_ratio ["top", "bottom"] (t.ds_make_ratio_1)
  g__law_made : mg "_law_made" = some (.ref t.a__law_made)
  F__law_made : Fun K "_law_made" "_law_made" s__law_made t.a__law_made t.fd__law_made
  b__law_made : Binds K t.fd__law_made ["_law_top", "_law_bottom"] []
  g__law_gcd : mg "_law_gcd" = some (.ref t.a__law_gcd)
  F__law_gcd : Fun K "_law_gcd" "_law_gcd" s__law_gcd t.a__law_gcd t.fd__law_gcd
  b__law_gcd : Binds K t.fd__law_gcd ["_law_a", "_law_b"] []
  g__law_ratio : mg "_law_ratio" = some (.ref t.a__law_ratio)
  F__law_ratio : Fun K "_law_ratio" "_law_ratio" s__law_ratio t.a__law_ratio t.fd__law_ratio
  b__law_ratio : Binds K t.fd__law_ratio ["_law_top", "_law_bottom"] []
  g__law_is_ratio : mg "_law_is_ratio" = some (.ref t.a__law_is_ratio)
  F__law_is_ratio : Fun K "_law_is_ratio" "_law_is_ratio" s__law_is_ratio t.a__law_is_ratio t.fd__law_is_ratio
  b__law_is_ratio : Binds K t.fd__law_is_ratio ["_law_thing"] []
  g__law_made_rightly : mg "_law_made_rightly" = some (.ref t.a__law_made_rightly)
  F__law_made_rightly : Fun K "_law_made_rightly" "_law_made_rightly" s__law_made_rightly t.a__law_made_rightly t.fd__law_made_rightly
  b__law_made_rightly : Binds K t.fd__law_made_rightly ["_law_a", "_law_b"] []
  g_is_ratio : mg "is_ratio" = some (.ref t.a_is_ratio)
  F_is_ratio : Fun K "is_ratio" "is_ratio" s_is_ratio t.a_is_ratio t.fd_is_ratio
  b_is_ratio : Binds K t.fd_is_ratio ["thing"] []
  g__law_told : mg "_law_told" = some (.ref t.a__law_told)
  F__law_told : Fun K "_law_told" "_law_told" s__law_told t.a__law_told t.fd__law_told
  b__law_told : Binds K t.fd__law_told ["_law_found", "_law_due"] []
  g__law_odd_rightly : mg "_law_odd_rightly" = some (.ref t.a__law_odd_rightly)
  F__law_odd_rightly : Fun K "_law_odd_rightly" "_law_odd_rightly" s__law_odd_rightly t.a__law_odd_rightly t.fd__law_odd_rightly
  b__law_odd_rightly : Binds K t.fd__law_odd_rightly ["_law_a", "_law_b"] []
  g__law_whole_rightly : mg "_law_whole_rightly" = some (.ref t.a__law_whole_rightly)
  F__law_whole_rightly : Fun K "_law_whole_rightly" "_law_whole_rightly" s__law_whole_rightly t.a__law_whole_rightly t.fd__law_whole_rightly
  b__law_whole_rightly : Binds K t.fd__law_whole_rightly ["_law_a", "_law_low", "_law_high"] []
  g_ratio_negative : mg "ratio_negative" = some (.ref t.a_ratio_negative)
  F_ratio_negative : Fun K "ratio_negative" "ratio_negative" s_ratio_negative t.a_ratio_negative t.fd_ratio_negative
  b_ratio_negative : Binds K t.fd_ratio_negative ["one"] []
  g_ratio_times : mg "ratio_times" = some (.ref t.a_ratio_times)
  F_ratio_times : Fun K "ratio_times" "ratio_times" s_ratio_times t.a_ratio_times t.fd_ratio_times
  b_ratio_times : Binds K t.fd_ratio_times ["one", "other"] []
  g_ratio_minus : mg "ratio_minus" = some (.ref t.a_ratio_minus)
  F_ratio_minus : Fun K "ratio_minus" "ratio_minus" s_ratio_minus t.a_ratio_minus t.fd_ratio_minus
  b_ratio_minus : Binds K t.fd_ratio_minus ["one", "other"] []
  g_ratio_plus : mg "ratio_plus" = some (.ref t.a_ratio_plus)
  F_ratio_plus : Fun K "ratio_plus" "ratio_plus" s_ratio_plus t.a_ratio_plus t.fd_ratio_plus
  b_ratio_plus : Binds K t.fd_ratio_plus ["one", "other"] []
  g_ratio_power : mg "ratio_power" = some (.ref t.a_ratio_power)
  F_ratio_power : Fun K "ratio_power" "ratio_power" s_ratio_power t.a_ratio_power t.fd_ratio_power
  b_ratio_power : Binds K t.fd_ratio_power ["one", "power"] []
  g__law_times : mg "_law_times" = some (.ref t.a__law_times)
  F__law_times : Fun K "_law_times" "_law_times" s__law_times t.a__law_times t.fd__law_times
  b__law_times : Binds K t.fd__law_times ["_law_a", "_law_b"] []
  g__law_plus : mg "_law_plus" = some (.ref t.a__law_plus)
  F__law_plus : Fun K "_law_plus" "_law_plus" s__law_plus t.a__law_plus t.fd__law_plus
  b__law_plus : Binds K t.fd__law_plus ["_law_a", "_law_b"] []
  g_ratio_over : mg "ratio_over" = some (.ref t.a_ratio_over)
  F_ratio_over : Fun K "ratio_over" "ratio_over" s_ratio_over t.a_ratio_over t.fd_ratio_over
  b_ratio_over : Binds K t.fd_ratio_over ["one", "other"] []
  g__law_divided : mg "_law_divided" = some (.ref t.a__law_divided)
  F__law_divided : Fun K "_law_divided" "_law_divided" s__law_divided t.a__law_divided t.fd__law_divided
  b__law_divided : Binds K t.fd__law_divided ["_law_one", "_law_other"] []
  g_ratio_compare : mg "ratio_compare" = some (.ref t.a_ratio_compare)
  F_ratio_compare : Fun K "ratio_compare" "ratio_compare" s_ratio_compare t.a_ratio_compare t.fd_ratio_compare
  b_ratio_compare : Binds K t.fd_ratio_compare ["one", "other"] []
  g_ratio_text : mg "ratio_text" = some (.ref t.a_ratio_text)
  F_ratio_text : Fun K "ratio_text" "ratio_text" s_ratio_text t.a_ratio_text t.fd_ratio_text
  b_ratio_text : Binds K t.fd_ratio_text ["one"] []
  g__law_text : mg "_law_text" = some (.ref t.a__law_text)
  F__law_text : Fun K "_law_text" "_law_text" s__law_text t.a__law_text t.fd__law_text
  b__law_text : Binds K t.fd__law_text ["_law_one"] []
  g_law : mg "law" = some (.ref t.a_law)
  F_law : Fun K "law" "law" s_law t.a_law t.fd_law
  b_law : Binds K t.fd_law ["_law_script"] []
  g_BadRatio : mg "BadRatio" = some (.ref t.c_BadRatio)
  ox_BadRatio : OexC K t.c_BadRatio
  i_BadRatio : PySem.W.findIn K (.ref t.c_BadRatio) "__init__" = some (some (.ref t.ai_BadRatio))
  ti_BadRatio : PySem.W.typeIn K (.ref t.ai_BadRatio) = some (.type "function")
  Fi_BadRatio : Fun K "__init__" "BadRatio.__init__" si_BadRatio t.ai_BadRatio t.fi_BadRatio
  bi_BadRatio : Binds K t.fi_BadRatio ["self", "what"] []
  no_BadRatio : ∀ f ∈ (["what"] : List Str), PySem.W.findIn K (.ref t.c_BadRatio) f = some none
  xf_BadRatio : XfC K t.c_BadRatio
  g_DividedByNought : mg "DividedByNought" = some (.ref t.c_DividedByNought)
  ox_DividedByNought : OexC K t.c_DividedByNought
  i_DividedByNought : PySem.W.findIn K (.ref t.c_DividedByNought) "__init__" = some (some (.ref t.ai_DividedByNought))
  ti_DividedByNought : PySem.W.typeIn K (.ref t.ai_DividedByNought) = some (.type "function")
  Fi_DividedByNought : Fun K "__init__" "DividedByNought.__init__" si_DividedByNought t.ai_DividedByNought t.fi_DividedByNought
  bi_DividedByNought : Binds K t.fi_DividedByNought ["self"] []
  no_DividedByNought : ∀ f ∈ ([] : List Str), PySem.W.findIn K (.ref t.c_DividedByNought) f = some none
  xf_DividedByNought : XfC K t.c_DividedByNought
  isA_BadRatio : ∀ e b, isA_BadRatio e = some b → PySem.W.exmOne K (.ref (cx t e)) (.ref t.c_BadRatio) = some b
  isA_DividedByNought : ∀ e b, isA_DividedByNought e = some b → PySem.W.exmOne K (.ref (cx t e)) (.ref t.c_DividedByNought) = some b
  g_ZERO : mg "ZERO" = some (.ref t.a_ZERO)
  r_ZERO : ∀ G, Rp K G (.ref t.a_ZERO) k_ZERO
  g_ONE : mg "ONE" = some (.ref t.a_ONE)
  r_ONE : ∀ G, Rp K G (.ref t.a_ONE) k_ONE
  g_gcd : mg "gcd" = some (.builtin "math.gcd")
  z_abs : mg "abs" = none
  z_all : mg "all" = none
  z_bool : mg "bool" = none
  z_int : mg "int" = none
  z_isinstance : mg "isinstance" = none
  z_len : mg "len" = none
  z_range : mg "range" = none
  z_str : mg "str" = none
  z_tuple : mg "tuple" = none
theorem gd_is_whole_1_low_high {K : PySem.W.Frag} {mg : Str → Option Value} {t : Adr} (_ : Top K mg t) (G : Hp) (φ : List Addr) {vs zs : List V} {ds es : List D} (h1 : RDs K G φ vs ds) (h2 : RDs K G φ zs es) : RDs K G φ (ggg_is_whole_1_low_high vs ([.non, .non] : List V) zs) (gdd_is_whole_1_low_high ds es) := by
  by_cases hl : ds.length = 1 ∧ es.length = 2
  · obtain ⟨l1, l2⟩ := hl
    have l1v := (paired_length h1).trans l1
    have l2v := (paired_length h2).trans l2
    match vs, ds, zs, es, h1, h2, l1, l2, l1v, l2v with
    | [v0], [d0], [z0, z1], [e0, e1], (.cons r0 .nil), (.cons q0 (.cons q1 .nil)), _, _, _, _ =>
      exact (.cons r0 (.cons q0 (.cons q1 .nil)))
  · have e1 : gdd_is_whole_1_low_high ds es = [] := by
      unfold gdd_is_whole_1_low_high
      split
      · exact absurd ⟨rfl, rfl⟩ hl
      · rfl
    have e2 : ggg_is_whole_1_low_high vs ([.non, .non] : List V) zs = [] := by
      unfold ggg_is_whole_1_low_high
      split
      · exact absurd ⟨(paired_length h1).symm, (paired_length h2).symm⟩ hl
      · rfl
    rw [e1, e2]
    exact .nil
theorem gd_is_whole_1_high {K : PySem.W.Frag} {mg : Str → Option Value} {t : Adr} (_ : Top K mg t) (G : Hp) (φ : List Addr) {vs zs : List V} {ds es : List D} (h1 : RDs K G φ vs ds) (h2 : RDs K G φ zs es) : RDs K G φ (ggg_is_whole_1_high vs ([.non, .non] : List V) zs) (gdd_is_whole_1_high ds es) := by
  by_cases hl : ds.length = 1 ∧ es.length = 1
  · obtain ⟨l1, l2⟩ := hl
    have l1v := (paired_length h1).trans l1
    have l2v := (paired_length h2).trans l2
    match vs, ds, zs, es, h1, h2, l1, l2, l1v, l2v with
    | [v0], [d0], [z0], [e0], (.cons r0 .nil), (.cons q0 .nil), _, _, _, _ =>
      exact (.cons r0 (.cons (show RD K G φ (.non) (.p (.non)) from Rp.non) (.cons q0 .nil)))
  · have e1 : gdd_is_whole_1_high ds es = [] := by
      unfold gdd_is_whole_1_high
      split
      · exact absurd ⟨rfl, rfl⟩ hl
      · rfl
    have e2 : ggg_is_whole_1_high vs ([.non, .non] : List V) zs = [] := by
      unfold ggg_is_whole_1_high
      split
      · exact absurd ⟨(paired_length h1).symm, (paired_length h2).symm⟩ hl
      · rfl
    rw [e1, e2]
    exact .nil
section
variable {P : Program} {w : World} {K : PySem.W.Frag} {mg : Str → Option Value} {base : Heap} {t : Adr}
theorem ok_init_BadRatio (T : Top K mg t) : FnOk P w K mg base (L2.CX P w) 1 t.ai_BadRatio t.fi_BadRatio ["self", "what"] (spInit K ["what"]) := T.Fi_BadRatio.okX sci_BadRatio (spInit_len rfl) fun cdv A outer s H vs Q E hr h => ⟨_, pss_one (ps_ost (pv 0) (pv 1)), init1 h⟩
theorem ok_init_DividedByNought (T : Top K mg t) : FnOk P w K mg base (L2.CX P w) 1 t.ai_DividedByNought t.fi_DividedByNought ["self"] (spInit0 K) := T.Fi_DividedByNought.okX sci_DividedByNought (spInit0_len rfl) fun cdv A outer s H vs Q E hr h => ⟨_, pss_one ps_pass, by obtain ⟨a, C, rfl, _, _, k⟩ := h; exact k⟩
theorem ok__law_start (T : Top K mg t) : FnOk P w K mg base (L2.CX P w) 1 t.a__law_start t.fd__law_start ["_law_script"] (spD K (cx t) [false] f__law_start) := def_ok T.F__law_start sc__law_start fun cdv A outer s H E R G0 W tk hr =>
    (ds_cons (ds_set (i := 1) rfl sc__law_start.nd dc_int)
    (ds_cons (ds_for (passes_of rfl) (di_list (dv 0)) (pg_name (i := 2) sc__law_start.nd rfl (by first | exact Or.inl rfl | exact Or.inr rfl)) (dtg_name rfl) (ds_one (ds_set (i := 1) rfl sc__law_start.nd (de_bin op_modN d_mod (de_callTy call_int1 d_int (da_cons (de_bin op_addAll d_add (de_bin op_mulAll d_mul (dv 1) dc_int) (de_callTy call_int1 d_int (da_cons (dv 2) da_nil) (hm := T.z_int))) da_nil) (hm := T.z_int)) dc_int))))
    (ds_one (ds_ret (de_lst (da_cons (de_lc rfl sc__law_start.nd (di_list (dv 0)) (blkOk_by (own := [("_law_cell", 2)]) (N := N__law_start) (sc := defScope s__law_start) (by decide +kernel)) (fun _ _ _ _ _ => (pg_name (i := 2) sc__law_start.nd rfl (by first | exact Or.inl rfl | exact Or.inr rfl))) (dtv_name rfl) (fun _ _ _ _ _ => dts_nil) (fun _ _ _ _ _ => (de_callTy call_int1 d_int (da_cons (dv 2) da_nil) (hm := T.z_int)))) (da_cons dc_int (da_cons dc_int (da_cons dc_int (da_cons (dv 1) da_nil))))))))))
theorem ok__law_mixed (T : Top K mg t) : FnOk P w K mg base (L2.CX P w) 1 t.a__law_mixed t.fd__law_mixed ["_law_number_here", "_law_turn"] (spD K (cx t) [false, false] f__law_mixed) := def_ok T.F__law_mixed sc__law_mixed fun cdv A outer s H E R G0 W tk hr =>
    (ds_cons (ds_set (i := 2) rfl sc__law_mixed.nd (de_bin op_modN d_mod (de_callTy call_int1 d_int (da_cons (de_bin op_addAll d_add (de_bin op_addAll d_add (de_bin op_mulAll d_mul (dv 0) dc_int) (de_bin op_mulAll d_mul (dv 1) dc_int)) dc_int) da_nil) (hm := T.z_int)) dc_int))
    (ds_cons (ds_set (i := 3) rfl sc__law_mixed.nd (de_bin op_modN d_mod (de_callTy call_int1 d_int (da_cons (de_bin op_addAll d_add (de_bin op_addAll d_add (de_bin op_mulAll d_mul (dv 2) (dv 2)) (de_bin op_mulAll d_mul (dv 1) dc_int)) dc_int) da_nil) (hm := T.z_int)) dc_int))
    (ds_one (ds_ret (de_bin op_fdivA d_div (de_bin op_modN d_mod (de_callTy call_int1 d_int (da_cons (de_bin op_addAll d_add (de_bin op_mulAll d_mul (dv 3) (dv 3)) (de_bin op_mulAll d_mul (dv 2) dc_int)) da_nil) (hm := T.z_int)) dc_int) dc_int)))))
theorem ok__law_draw (T : Top K mg t) : FnOk P w K mg base (L2.CX P w) 2 t.a__law_draw t.fd__law_draw ["_law_hand", "_law_many"] (spD K (cx t) [true, false] f__law_draw) := def_ok T.F__law_draw sc__law_draw fun cdv A outer s H E R G0 W tk hr =>
    (ds_cons (ds_setItem (de_bin op_addAll d_add (de_ix (dv 0) dc_int) dc_int) (dv 0) dc_int)
    (ds_cons (ds_if (dt_bool (dw_and (dt_cmp (op_eq2 hr.units) d_eq (de_ix (dv 0) dc_int) dc_int (nomark _)) (dw_and1 (dt_cmp op_lt2 d_ord (de_ix (dv 0) dc_int) (de_callB call_len d_len (da_cons (de_ix (dv 0) dc_int) da_nil) (hm := T.z_len)) (nomark _))))) (ds_cons (ds_set (i := 2) rfl sc__law_draw.nd (de_ix (de_ix (dv 0) dc_int) (de_ix (dv 0) dc_int)))
    (ds_cons (ds_setItem (de_bin op_addAll d_add (de_ix (dv 0) dc_int) dc_int) (dv 0) dc_int)
    (ds_cons (ds_if (dt_cmp op_lt2 d_ord (de_callB call_abs d_abs (da_cons (dv 2) da_nil) (hm := T.z_abs)) (de_bin op_pow d_pow dc_int dc_int) (nomark _)) (ds_one (ds_ret (de_bin op_modN d_mod (de_callTy call_int1 d_int (da_cons (de_call (ok__law_mixed T) (hr.mono (by decide)) tk T.g__law_mixed T.F__law_mixed.kp T.b__law_mixed (da_cons (dv 2) (da_cons (de_ix (dv 0) dc_int) da_nil))) da_nil) (hm := T.z_int)) (dv 1)))) ds_nil)
    (ds_one (ds_setItem (de_callB call_abs d_abs (da_cons (dv 2) da_nil) (hm := T.z_abs)) (dv 0) dc_int))))) ds_nil)
    (ds_cons (ds_if (dt_cmp op_gt2 d_ord (de_ix (dv 0) dc_int) dc_int (nomark _)) (ds_cons (ds_set (i := 3) rfl sc__law_draw.nd (de_bin op_modN d_mod (de_callTy call_int1 d_int (da_cons (de_ix (dv 0) dc_int) da_nil) (hm := T.z_int)) (dv 1)))
    (ds_cons (ds_setItem (de_bin op_fdivA d_div (de_ix (dv 0) dc_int) (dv 1)) (dv 0) dc_int)
    (ds_one (ds_ret (dv 3))))) ds_nil)
    (ds_one (ds_ret (de_bin op_modN d_mod (de_callTy call_int1 d_int (da_cons (de_call (ok__law_mixed T) (hr.mono (by decide)) tk T.g__law_mixed T.F__law_mixed.kp T.b__law_mixed (da_cons (de_ix (dv 0) dc_int) (da_cons (de_ix (dv 0) dc_int) da_nil))) da_nil) (hm := T.z_int)) (dv 1)))))))
theorem ok__law_number (T : Top K mg t) : FnOk P w K mg base (L2.CX P w) 3 t.a__law_number t.fd__law_number ["_law_hand"] (spD K (cx t) [true] f__law_number) := def_ok T.F__law_number sc__law_number fun cdv A outer s H E R G0 W tk hr =>
    (ds_cons (ds_set (i := 1) rfl sc__law_number.nd (de_call (ok__law_draw T) (hr.mono (by decide)) tk T.g__law_draw T.F__law_draw.kp T.b__law_draw (da_cons (dv 0) (da_cons dc_int da_nil))))
    (ds_cons (ds_set (i := 2) rfl sc__law_number.nd (de_bin op_sub d_sub dc_int (de_bin op_mulAll d_mul dc_int (de_call (ok__law_draw T) (hr.mono (by decide)) tk T.g__law_draw T.F__law_draw.kp T.b__law_draw (da_cons (dv 0) (da_cons dc_int da_nil))))))
    (ds_cons (ds_if (dt_cmp (op_eq2 hr.units) d_eq (dv 1) dc_int (nomark _)) (ds_one (ds_ret (de_bin op_mulAll d_mul (dv 2) (de_call (ok__law_draw T) (hr.mono (by decide)) tk T.g__law_draw T.F__law_draw.kp T.b__law_draw (da_cons (dv 0) (da_cons dc_int da_nil)))))) ds_nil)
    (ds_cons (ds_if (dt_cmp (op_eq2 hr.units) d_eq (dv 1) dc_int (nomark _)) (ds_one (ds_ret (de_bin op_mulAll d_mul (dv 2) (de_call (ok__law_draw T) (hr.mono (by decide)) tk T.g__law_draw T.F__law_draw.kp T.b__law_draw (da_cons (dv 0) (da_cons dc_int da_nil)))))) ds_nil)
    (ds_cons (ds_if (dt_cmp (op_eq2 hr.units) d_eq (dv 1) dc_int (nomark _)) (ds_one (ds_ret (de_bin op_mulAll d_mul (dv 2) (de_call (ok__law_draw T) (hr.mono (by decide)) tk T.g__law_draw T.F__law_draw.kp T.b__law_draw (da_cons (dv 0) (da_cons (de_bin op_pow d_pow dc_int dc_int) da_nil)))))) ds_nil)
    (ds_one (ds_ret (de_bin op_mulAll d_mul (dv 2) (de_bin op_addAll d_add (de_bin op_mulAll d_mul (de_call (ok__law_draw T) (hr.mono (by decide)) tk T.g__law_draw T.F__law_draw.kp T.b__law_draw (da_cons (dv 0) (da_cons (de_bin op_pow d_pow dc_int dc_int) da_nil))) (de_bin op_pow d_pow dc_int dc_int)) (de_call (ok__law_draw T) (hr.mono (by decide)) tk T.g__law_draw T.F__law_draw.kp T.b__law_draw (da_cons (dv 0) (da_cons (de_bin op_pow d_pow dc_int dc_int) da_nil))))))))))))
theorem ok_is_whole (T : Top K mg t) : FnOk P w K mg base (L2.CX P w) 1 t.a_is_whole t.fd_is_whole ["thing", "low", "high"] (spD K (cx t) [false, false, false] f_is_whole) := defD_ok T.F_is_whole sc_is_whole fun cdv A outer s H E R G0 W tk hr =>
    (ds_cons (ds_if (dt_bool (dw_or (dt_not (dt_tru (de_isi (dv 0) (hm := T.z_isinstance) (hmT := T.z_int)))) (dw_or1 (dt_tru (de_isi (dv 0) (hm := T.z_isinstance) (hmT := T.z_bool)))))) (ds_one (ds_ret dc_bl)) ds_nil)
    (ds_cons (ds_if (dt_bool (dw_and (dt_cmp op_isnot2 d_isnot (dv 1) dc_non (nomark _)) (dw_and1 (dt_cmp op_lt2 d_ord (dv 0) (dv 1) (nomark _))))) (ds_one (ds_ret dc_bl)) ds_nil)
    (ds_one (ds_ret (de_or (de_cmp op_is2 d_is (dv 2) dc_non (nomark _)) (de_one (de_cmp op_le2 d_ord (dv 0) (dv 2) (nomark _))))))))
theorem ok_lowest (T : Top K mg t) : FnOk P w K mg base (L2.CX P w) 1 t.a_lowest t.fd_lowest ["top", "bottom"] (spD K (cx t) [false, false] f_lowest) := def_ok T.F_lowest sc_lowest fun cdv A outer s H E R G0 W tk hr =>
    (ds_cons (ds_set (i := 2) rfl sc_lowest.nd (de_callBfun cr_gcd d_gcd (da_cons (dv 0) (da_cons (dv 1) da_nil)) T.g_gcd))
    (ds_cons (ds_if (dt_cmp op_lt2 d_ord (dv 1) dc_int (nomark _)) (ds_one (ds_set (i := 2) rfl sc_lowest.nd (de_un un_neg d_neg (dv 2)))) ds_nil)
    (ds_one (ds_ret (de_tup (da_cons (de_bin op_fdivA d_div (dv 0) (dv 2)) (da_cons (de_bin op_fdivA d_div (dv 1) (dv 2)) da_nil)))))))
theorem ok_make_ratio (T : Top K mg t) : FnOk P w K mg base (L2.CX P w) 3 t.a_make_ratio t.fd_make_ratio ["top", "bottom"] (spD K (cx t) [false, false] f_make_ratio) := defD_ok T.F_make_ratio sc_make_ratio fun cdv A outer s H E R G0 W tk hr =>
    (ds_cons (ds_if (dt_not (dt_tru (de_callD (ok_is_whole T) (hr.mono (by decide)) tk T.g_is_whole T.F_is_whole.kp T.b_is_whole_1.2 T.b_is_whole_1.1 (fun _ => (.cons .non (.cons .non .nil))) (da_cons (dv 0) da_nil)))) (ds_one (ds_raise rfl tk T.ox_BadRatio T.i_BadRatio T.ti_BadRatio T.no_BadRatio (ok_init_BadRatio T) (hr.mono (by decide)) T.bi_BadRatio T.g_BadRatio rfl (by decide) (da_cons dc_str da_nil))) ds_nil)
    (ds_cons (ds_if (dt_bool (dw_or (dt_not (dt_tru (de_callD (ok_is_whole T) (hr.mono (by decide)) tk T.g_is_whole T.F_is_whole.kp T.b_is_whole_1.2 T.b_is_whole_1.1 (fun _ => (.cons .non (.cons .non .nil))) (da_cons (dv 1) da_nil)))) (dw_or1 (dt_cmp (op_eq2 hr.units) d_eq (dv 1) dc_int (nomark _))))) (ds_one (ds_raise rfl tk T.ox_BadRatio T.i_BadRatio T.ti_BadRatio T.no_BadRatio (ok_init_BadRatio T) (hr.mono (by decide)) T.bi_BadRatio T.g_BadRatio rfl (by decide) (da_cons dc_str da_nil))) ds_nil)
    (ds_one (ds_ret (de_call (ok_lowest T) (hr.mono (by decide)) tk T.g_lowest T.F_lowest.kp T.b_lowest (da_cons (dv 0) (da_cons (dv 1) da_nil)))))))
theorem ok__law_made (T : Top K mg t) : FnOk P w K mg base (L2.CX P w) 4 t.a__law_made t.fd__law_made ["_law_top", "_law_bottom"] (spD K (cx t) [false, false] f__law_made) := def_ok T.F__law_made sc__law_made fun cdv A outer s H E R G0 W tk hr =>
    (ds_one (ds_tryAs (i := 2) (T.isA_BadRatio) rfl sc__law_made.nd ⟨rfl, by decide, Or.inl T.g_BadRatio⟩ tk (fun W1 pn xe tk1 po1 => (ds_one (ds_ret (de_tup (da_cons dc_str (da_cons (de_callD (ok_make_ratio T) (hr.mono (by decide)) tk1 T.g_make_ratio T.F_make_ratio.kp T.b_make_ratio_2.2 T.b_make_ratio_2.1 (fun _ => .nil) (da_cons (dv 0) (da_cons (dv 1) da_nil))) da_nil)))))) (fun a oe cls d pn hz hf => (ds_one (ds_ret (de_tup (da_cons dc_str (da_cons (de_xf T.xf_BadRatio (T.no_BadRatio _ (by decide +kernel)) hz hf rfl) da_nil))))))))
theorem ok__law_gcd (T : Top K mg t) : FnOk P w K mg base (L2.CX P w) 1 t.a__law_gcd t.fd__law_gcd ["_law_a", "_law_b"] (spD K (cx t) [false, false] f__law_gcd) := def_ok T.F__law_gcd sc__law_gcd fun cdv A outer s H E R G0 W tk hr =>
    (ds_cons (ds_set (i := 0) rfl sc__law_gcd.nd (de_callB call_abs d_abs (da_cons (dv 0) da_nil) (hm := T.z_abs)))
    (ds_cons (ds_set (i := 1) rfl sc__law_gcd.nd (de_callB call_abs d_abs (da_cons (dv 1) da_nil) (hm := T.z_abs)))
    (ds_cons (ds_for (passes_of rfl) (di_range1 (da_cons dc_int da_nil) (hm := T.z_range)) (pg_name (i := 2) sc__law_gcd.nd rfl (by first | exact Or.inl rfl | exact Or.inr rfl)) (dtg_name rfl) (ds_cons (ds_if (dt_cmp (op_eq2 hr.units) d_eq (dv 1) dc_int (nomark _)) (ds_one ds_break) ds_nil)
    (ds_one (ds_par (i := 0) (j := 1) rfl sc__law_gcd.nd (da_cons (dv 1) (da_cons (de_bin op_modN d_mod (de_callTy call_int1 d_int (da_cons (dv 0) da_nil) (hm := T.z_int)) (dv 1)) da_nil))))))
    (ds_one (ds_ret (dv 0))))))
theorem ok__law_ratio (T : Top K mg t) : FnOk P w K mg base (L2.CX P w) 2 t.a__law_ratio t.fd__law_ratio ["_law_top", "_law_bottom"] (spD K (cx t) [false, false] f__law_ratio) := def_ok T.F__law_ratio sc__law_ratio fun cdv A outer s H E R G0 W tk hr =>
    (ds_cons (ds_if (dt_cmp op_lt2 d_ord (dv 1) dc_int (nomark _)) (ds_cons (ds_set (i := 0) rfl sc__law_ratio.nd (de_un un_neg d_neg (dv 0)))
    (ds_one (ds_set (i := 1) rfl sc__law_ratio.nd (de_un un_neg d_neg (dv 1))))) ds_nil)
    (ds_cons (ds_set (i := 2) rfl sc__law_ratio.nd (de_call (ok__law_gcd T) (hr.mono (by decide)) tk T.g__law_gcd T.F__law_gcd.kp T.b__law_gcd (da_cons (dv 0) (da_cons (dv 1) da_nil))))
    (ds_one (ds_ret (de_tup (da_cons (de_bin op_fdivA d_div (dv 0) (dv 2)) (da_cons (de_bin op_fdivA d_div (dv 1) (dv 2)) da_nil)))))))
theorem ok__law_is_ratio (T : Top K mg t) : FnOk P w K mg base (L2.CX P w) 1 t.a__law_is_ratio t.fd__law_is_ratio ["_law_thing"] (spD K (cx t) [false] f__law_is_ratio) := def_ok T.F__law_is_ratio sc__law_is_ratio fun cdv A outer s H E R G0 W tk hr =>
    (ds_cons (ds_if (dt_bool (dw_or (dt_not (dt_tru (de_isi (dv 0) (hm := T.z_isinstance) (hmT := T.z_tuple)))) (dw_or1 (dt_cmp (op_ne2 hr.units) d_ne (de_callB call_len d_len (da_cons (dv 0) da_nil) (hm := T.z_len)) dc_int (nomark _))))) (ds_one (ds_ret dc_bl)) ds_nil)
    (ds_one (ds_ret (de_callB (cr_all rfl) d_all (da_cons (de_lc rfl sc__law_is_ratio.nd (di_tup (dv 0)) (blkOk_by (own := [("_law_item", 1)]) (N := N__law_is_ratio) (sc := defScope s__law_is_ratio) (by decide +kernel)) (fun _ _ _ _ _ => (pg_name (i := 1) sc__law_is_ratio.nd rfl (by first | exact Or.inl rfl | exact Or.inr rfl))) (dtv_name rfl) (fun _ _ _ _ _ => dts_nil) (fun _ _ _ _ _ => (de_and (de_isi (dv 1) (hm := T.z_isinstance) (hmT := T.z_int)) (de_one (de_not (de_isi (dv 1) (hm := T.z_isinstance) (hmT := T.z_bool))))))) da_nil) (hm := T.z_all)))))
theorem ok__law_made_rightly (T : Top K mg t) : FnOk P w K mg base (L2.CX P w) 5 t.a__law_made_rightly t.fd__law_made_rightly ["_law_a", "_law_b"] (spD K (cx t) [false, false] f__law_made_rightly) := def_ok T.F__law_made_rightly sc__law_made_rightly fun cdv A outer s H E R G0 W tk hr =>
    (ds_cons (ds_if (dt_cmp (op_eq2 hr.units) d_eq (dv 1) dc_int (nomark _)) (ds_one (ds_ret (de_cmp (op_eq2 hr.units) d_eq (de_call (ok__law_made T) (hr.mono (by decide)) tk T.g__law_made T.F__law_made.kp T.b__law_made (da_cons (dv 0) (da_cons (dv 1) da_nil))) (de_tup (da_cons dc_str (da_cons dc_str da_nil))) (nomark _)))) ds_nil)
    (ds_cons (ds_set (i := 2) rfl sc__law_made_rightly.nd (de_call (ok__law_made T) (hr.mono (by decide)) tk T.g__law_made T.F__law_made.kp T.b__law_made (da_cons (dv 0) (da_cons (dv 1) da_nil))))
    (ds_one (ds_ret (de_and (de_cmp (op_eq2 hr.units) d_eq (dv 2) (de_tup (da_cons dc_str (da_cons (de_call (ok__law_ratio T) (hr.mono (by decide)) tk T.g__law_ratio T.F__law_ratio.kp T.b__law_ratio (da_cons (dv 0) (da_cons (dv 1) da_nil))) da_nil))) (nomark _)) (de_one (de_call (ok__law_is_ratio T) (hr.mono (by decide)) tk T.g__law_is_ratio T.F__law_is_ratio.kp T.b__law_is_ratio (da_cons (de_ix (dv 2) dc_int) da_nil))))))))
theorem ok_is_ratio (T : Top K mg t) : FnOk P w K mg base (L2.CX P w) 2 t.a_is_ratio t.fd_is_ratio ["thing"] (spD K (cx t) [false] f_is_ratio) := def_ok T.F_is_ratio sc_is_ratio fun cdv A outer s H E R G0 W tk hr =>
    (ds_cons (ds_if (dt_bool (dw_or (dt_not (dt_tru (de_isi (dv 0) (hm := T.z_isinstance) (hmT := T.z_tuple)))) (dw_or1 (dt_cmp (op_ne2 hr.units) d_ne (de_callB call_len d_len (da_cons (dv 0) da_nil) (hm := T.z_len)) dc_int (nomark _))))) (ds_one (ds_ret dc_bl)) ds_nil)
    (ds_cons (ds_if (dt_bool (dw_or (dt_not (dt_tru (de_callD (ok_is_whole T) (hr.mono (by decide)) tk T.g_is_whole T.F_is_whole.kp T.b_is_whole_1.2 T.b_is_whole_1.1 (fun _ => (.cons .non (.cons .non .nil))) (da_cons (de_ix (dv 0) dc_int) da_nil)))) (dw_or1 (dt_not (dt_tru (de_callD (ok_is_whole T) (hr.mono (by decide)) tk T.g_is_whole T.F_is_whole.kp T.b_is_whole_2.2 T.b_is_whole_2.1 (fun _ => (.cons .non .nil)) (da_cons (de_ix (dv 0) dc_int) (da_cons dc_int da_nil)))))))) (ds_one (ds_ret dc_bl)) ds_nil)
    (ds_one (ds_ret (de_cmp (op_eq2 hr.units) d_eq (de_callBfun cr_gcd d_gcd (da_cons (de_ix (dv 0) dc_int) (da_cons (de_ix (dv 0) dc_int) da_nil)) T.g_gcd) dc_int (nomark _))))))
theorem ok__law_told (T : Top K mg t) : FnOk P w K mg base (L2.CX P w) 1 t.a__law_told t.fd__law_told ["_law_found", "_law_due"] (spD K (cx t) [false, false] f__law_told) := def_ok T.F__law_told sc__law_told fun cdv A outer s H E R G0 W tk hr =>
    (ds_one (ds_ret (de_if (dt_tru (dv 1)) (de_cmp op_is2 d_is (dv 0) dc_bl (nomark _)) (de_cmp op_is2 d_is (dv 0) dc_bl (nomark _)))))
theorem ok__law_odd_rightly (T : Top K mg t) : FnOk P w K mg base (L2.CX P w) 5 t.a__law_odd_rightly t.fd__law_odd_rightly ["_law_a", "_law_b"] (spD K (cx t) [false, false] f__law_odd_rightly) := def_ok T.F__law_odd_rightly sc__law_odd_rightly fun cdv A outer s H E R G0 W tk hr =>
    (ds_cons (ds_set (i := 2) rfl sc__law_odd_rightly.nd (de_lst (da_cons dc_bl (da_cons dc_non (da_cons dc_str (da_cons (de_tup (da_cons dc_int da_nil)) (da_cons (de_lst (da_cons dc_int da_nil)) da_nil)))))))
    (ds_cons (ds_for (passes_of rfl) (di_list (dv 2)) (pg_name (i := 3) sc__law_odd_rightly.nd rfl (by first | exact Or.inl rfl | exact Or.inr rfl)) (dtg_name rfl) (ds_cons (ds_if (dt_bool (dw_or (dt_cmp (op_ne2 hr.units) d_ne (de_call (ok__law_made T) (hr.mono (by decide)) tk T.g__law_made T.F__law_made.kp T.b__law_made (da_cons (dv 3) (da_cons dc_int da_nil))) (de_tup (da_cons dc_str (da_cons dc_str da_nil))) (nomark _)) (dw_or1 (dt_cmp (op_ne2 hr.units) d_ne (de_call (ok__law_made T) (hr.mono (by decide)) tk T.g__law_made T.F__law_made.kp T.b__law_made (da_cons (dv 0) (da_cons (dv 3) da_nil))) (de_tup (da_cons dc_str (da_cons dc_str da_nil))) (nomark _))))) (ds_one (ds_ret dc_bl)) ds_nil)
    (ds_cons (ds_if (dt_bool (dw_or (dt_cmp op_isnot2 d_isnot (de_callD (ok_is_whole T) (hr.mono (by decide)) tk T.g_is_whole T.F_is_whole.kp T.b_is_whole_1.2 T.b_is_whole_1.1 (fun _ => (.cons .non (.cons .non .nil))) (da_cons (dv 3) da_nil)) dc_bl (nomark _)) (dw_or (dt_cmp op_isnot2 d_isnot (de_call (ok_is_ratio T) (hr.mono (by decide)) tk T.g_is_ratio T.F_is_ratio.kp T.b_is_ratio (da_cons (dv 3) da_nil)) dc_bl (nomark _)) (dw_or1 (dt_cmp op_isnot2 d_isnot (de_call (ok_is_ratio T) (hr.mono (by decide)) tk T.g_is_ratio T.F_is_ratio.kp T.b_is_ratio (da_cons (de_tup (da_cons (dv 0) (da_cons (dv 3) da_nil))) da_nil)) dc_bl (nomark _)))))) (ds_one (ds_ret dc_bl)) ds_nil)
    (ds_one (ds_if (dt_bool (dw_or (dt_cmp op_isnot2 d_isnot (de_call (ok_is_ratio T) (hr.mono (by decide)) tk T.g_is_ratio T.F_is_ratio.kp T.b_is_ratio (da_cons (de_tup (da_cons (dv 3) (da_cons dc_int da_nil))) da_nil)) dc_bl (nomark _)) (dw_or1 (dt_cmp op_isnot2 d_isnot (de_callD (ok_is_whole T) (hr.mono (by decide)) tk T.g_is_whole T.F_is_whole.kp T.b_is_whole_2.2 T.b_is_whole_2.1 (fun _ => (.cons .non .nil)) (da_cons (dv 3) (da_cons dc_int da_nil))) dc_bl (nomark _))))) (ds_one (ds_ret dc_bl)) ds_nil)))))
    (ds_cons (ds_set (i := 4) rfl sc__law_odd_rightly.nd (de_and (de_cmp op_ge2 d_ord (dv 1) dc_int (nomark _)) (de_one (de_cmp (op_eq2 hr.units) d_eq (de_call (ok__law_gcd T) (hr.mono (by decide)) tk T.g__law_gcd T.F__law_gcd.kp T.b__law_gcd (da_cons (dv 0) (da_cons (dv 1) da_nil))) dc_int (nomark _)))))
    (ds_cons (ds_if (dt_bool (dw_or (dt_not (dt_tru (de_call (ok__law_told T) (hr.mono (by decide)) tk T.g__law_told T.F__law_told.kp T.b__law_told (da_cons (de_call (ok_is_ratio T) (hr.mono (by decide)) tk T.g_is_ratio T.F_is_ratio.kp T.b_is_ratio (da_cons (de_tup (da_cons (dv 0) (da_cons (dv 1) da_nil))) da_nil)) (da_cons (dv 4) da_nil))))) (dw_or (dt_cmp op_isnot2 d_isnot (de_call (ok_is_ratio T) (hr.mono (by decide)) tk T.g_is_ratio T.F_is_ratio.kp T.b_is_ratio (da_cons (de_lst (da_cons (dv 0) (da_cons (dv 1) da_nil))) da_nil)) dc_bl (nomark _)) (dw_or1 (dt_cmp op_isnot2 d_isnot (de_call (ok_is_ratio T) (hr.mono (by decide)) tk T.g_is_ratio T.F_is_ratio.kp T.b_is_ratio (da_cons (de_tup (da_cons (dv 0) (da_cons (dv 1) (da_cons dc_int da_nil)))) da_nil)) dc_bl (nomark _)))))) (ds_one (ds_ret dc_bl)) ds_nil)
    (ds_one (ds_ret (de_and (de_cmp op_is2 d_is (de_call (ok_is_ratio T) (hr.mono (by decide)) tk T.g_is_ratio T.F_is_ratio.kp T.b_is_ratio (da_cons (de_tup (da_cons (dv 0) (da_cons dc_int da_nil))) da_nil)) dc_bl (nomark _)) (de_and (de_cmp op_is2 d_is (de_call (ok_is_ratio T) (hr.mono (by decide)) tk T.g_is_ratio T.F_is_ratio.kp T.b_is_ratio (da_cons (de_tup (da_cons (dv 0) (da_cons (de_un un_neg d_neg dc_int) da_nil))) da_nil)) dc_bl (nomark _)) (de_one (de_cmp op_is2 d_is (de_call (ok_is_ratio T) (hr.mono (by decide)) tk T.g_is_ratio T.F_is_ratio.kp T.b_is_ratio (da_cons (de_tup (da_cons (de_bin op_mulAll d_mul dc_int (dv 0)) (da_cons dc_int da_nil))) da_nil)) dc_bl (nomark _)))))))))))
theorem ok__law_whole_rightly (T : Top K mg t) : FnOk P w K mg base (L2.CX P w) 2 t.a__law_whole_rightly t.fd__law_whole_rightly ["_law_a", "_law_low", "_law_high"] (spD K (cx t) [false, false, false] f__law_whole_rightly) := def_ok T.F__law_whole_rightly sc__law_whole_rightly fun cdv A outer s H E R G0 W tk hr =>
    (ds_cons (ds_if (dt_bool (dw_or (dt_cmp op_isnot2 d_isnot (de_callD (ok_is_whole T) (hr.mono (by decide)) tk T.g_is_whole T.F_is_whole.kp T.b_is_whole_1.2 T.b_is_whole_1.1 (fun _ => (.cons .non (.cons .non .nil))) (da_cons (dv 0) da_nil)) dc_bl (nomark _)) (dw_or1 (dt_not (dt_tru (de_call (ok__law_told T) (hr.mono (by decide)) tk T.g__law_told T.F__law_told.kp T.b__law_told (da_cons (de_callD (ok_is_whole T) (hr.mono (by decide)) tk T.g_is_whole T.F_is_whole.kp T.b_is_whole_2.2 T.b_is_whole_2.1 (fun _ => (.cons .non .nil)) (da_cons (dv 0) (da_cons (dv 1) da_nil))) (da_cons (de_cmp op_le2 d_ord (dv 1) (dv 0) (nomark _)) da_nil)))))))) (ds_one (ds_ret dc_bl)) ds_nil)
    (ds_cons (ds_if (dt_not (dt_tru (de_call (ok__law_told T) (hr.mono (by decide)) tk T.g__law_told T.F__law_told.kp T.b__law_told (da_cons (de_callD (ok_is_whole T) (hr.mono (by decide)) tk T.g_is_whole T.F_is_whole.kp T.b_is_whole_3.2 T.b_is_whole_3.1 (fun _ => .nil) (da_cons (dv 0) (da_cons dc_non (da_cons (dv 2) da_nil)))) (da_cons (de_cmp op_le2 d_ord (dv 0) (dv 2) (nomark _)) da_nil))))) (ds_one (ds_ret dc_bl)) ds_nil)
    (ds_cons (ds_if (dt_not (dt_tru (de_call (ok__law_told T) (hr.mono (by decide)) tk T.g__law_told T.F__law_told.kp T.b__law_told (da_cons (de_kw (ok_is_whole T) (hr.mono (by decide)) T.g_is_whole T.F_is_whole.kp T.kb_is_whole_1_low_high (gd_is_whole_1_low_high T) (da_cons (dv 0) da_nil) (dk_cons (dv 1) (dk_cons (dv 2) dk_nil))) (da_cons (de_and (de_cmp op_le2 d_ord (dv 1) (dv 0) (nomark _)) (de_one (de_cmp op_le2 d_ord (dv 0) (dv 2) (nomark _)))) da_nil))))) (ds_one (ds_ret dc_bl)) ds_nil)
    (ds_one (ds_ret (de_and (de_cmp op_is2 d_is (de_callD (ok_is_whole T) (hr.mono (by decide)) tk T.g_is_whole T.F_is_whole.kp T.b_is_whole_3.2 T.b_is_whole_3.1 (fun _ => .nil) (da_cons (dv 0) (da_cons (dv 0) (da_cons (dv 0) da_nil)))) dc_bl (nomark _)) (de_and (de_cmp op_is2 d_is (de_callD (ok_is_whole T) (hr.mono (by decide)) tk T.g_is_whole T.F_is_whole.kp T.b_is_whole_2.2 T.b_is_whole_2.1 (fun _ => (.cons .non .nil)) (da_cons (dv 0) (da_cons (de_bin op_addAll d_add (dv 0) dc_int) da_nil))) dc_bl (nomark _)) (de_one (de_cmp op_is2 d_is (de_kw (ok_is_whole T) (hr.mono (by decide)) T.g_is_whole T.F_is_whole.kp T.kb_is_whole_1_high (gd_is_whole_1_high T) (da_cons (dv 0) da_nil) (dk_cons (de_bin op_sub d_sub (dv 0) dc_int) dk_nil)) dc_bl (nomark _))))))))))
theorem ok_ratio_negative (T : Top K mg t) : FnOk P w K mg base (L2.CX P w) 1 t.a_ratio_negative t.fd_ratio_negative ["one"] (spD K (cx t) [false] f_ratio_negative) := def_ok T.F_ratio_negative sc_ratio_negative fun cdv A outer s H E R G0 W tk hr =>
    (ds_one (ds_ret (de_tup (da_cons (de_un un_neg d_neg (de_ix (dv 0) dc_int)) (da_cons (de_ix (dv 0) dc_int) da_nil)))))
theorem ok_ratio_times (T : Top K mg t) : FnOk P w K mg base (L2.CX P w) 2 t.a_ratio_times t.fd_ratio_times ["one", "other"] (spD K (cx t) [false, false] f_ratio_times) := def_ok T.F_ratio_times sc_ratio_times fun cdv A outer s H E R G0 W tk hr =>
    (ds_cons (ds_if (dt_bool (dw_and (dt_cmp (op_eq2 hr.units) d_eq (de_ix (dv 0) dc_int) dc_int (nomark _)) (dw_and1 (dt_cmp (op_eq2 hr.units) d_eq (de_ix (dv 1) dc_int) dc_int (nomark _))))) (ds_one (ds_ret (de_tup (da_cons (de_bin op_mulAll d_mul (de_ix (dv 0) dc_int) (de_ix (dv 1) dc_int)) (da_cons dc_int da_nil))))) ds_nil)
    (ds_one (ds_ret (de_call (ok_lowest T) (hr.mono (by decide)) tk T.g_lowest T.F_lowest.kp T.b_lowest (da_cons (de_bin op_mulAll d_mul (de_ix (dv 0) dc_int) (de_ix (dv 1) dc_int)) (da_cons (de_bin op_mulAll d_mul (de_ix (dv 0) dc_int) (de_ix (dv 1) dc_int)) da_nil))))))
theorem ok_ratio_minus (T : Top K mg t) : FnOk P w K mg base (L2.CX P w) 2 t.a_ratio_minus t.fd_ratio_minus ["one", "other"] (spD K (cx t) [false, false] f_ratio_minus) := def_ok T.F_ratio_minus sc_ratio_minus fun cdv A outer s H E R G0 W tk hr =>
    (ds_cons (ds_if (dt_bool (dw_and (dt_cmp (op_eq2 hr.units) d_eq (de_ix (dv 0) dc_int) dc_int (nomark _)) (dw_and1 (dt_cmp (op_eq2 hr.units) d_eq (de_ix (dv 1) dc_int) dc_int (nomark _))))) (ds_one (ds_ret (de_tup (da_cons (de_bin op_sub d_sub (de_ix (dv 0) dc_int) (de_ix (dv 1) dc_int)) (da_cons dc_int da_nil))))) ds_nil)
    (ds_one (ds_ret (de_call (ok_lowest T) (hr.mono (by decide)) tk T.g_lowest T.F_lowest.kp T.b_lowest (da_cons (de_bin op_sub d_sub (de_bin op_mulAll d_mul (de_ix (dv 0) dc_int) (de_ix (dv 1) dc_int)) (de_bin op_mulAll d_mul (de_ix (dv 1) dc_int) (de_ix (dv 0) dc_int))) (da_cons (de_bin op_mulAll d_mul (de_ix (dv 0) dc_int) (de_ix (dv 1) dc_int)) da_nil))))))
theorem ok_ratio_plus (T : Top K mg t) : FnOk P w K mg base (L2.CX P w) 2 t.a_ratio_plus t.fd_ratio_plus ["one", "other"] (spD K (cx t) [false, false] f_ratio_plus) := def_ok T.F_ratio_plus sc_ratio_plus fun cdv A outer s H E R G0 W tk hr =>
    (ds_cons (ds_if (dt_bool (dw_and (dt_cmp (op_eq2 hr.units) d_eq (de_ix (dv 0) dc_int) dc_int (nomark _)) (dw_and1 (dt_cmp (op_eq2 hr.units) d_eq (de_ix (dv 1) dc_int) dc_int (nomark _))))) (ds_one (ds_ret (de_tup (da_cons (de_bin op_addAll d_add (de_ix (dv 0) dc_int) (de_ix (dv 1) dc_int)) (da_cons dc_int da_nil))))) ds_nil)
    (ds_one (ds_ret (de_call (ok_lowest T) (hr.mono (by decide)) tk T.g_lowest T.F_lowest.kp T.b_lowest (da_cons (de_bin op_addAll d_add (de_bin op_mulAll d_mul (de_ix (dv 0) dc_int) (de_ix (dv 1) dc_int)) (de_bin op_mulAll d_mul (de_ix (dv 1) dc_int) (de_ix (dv 0) dc_int))) (da_cons (de_bin op_mulAll d_mul (de_ix (dv 0) dc_int) (de_ix (dv 1) dc_int)) da_nil))))))
theorem ok_ratio_power (T : Top K mg t) : FnOk P w K mg base (L2.CX P w) 3 t.a_ratio_power t.fd_ratio_power ["one", "power"] (spD K (cx t) [false, false] f_ratio_power) := def_ok T.F_ratio_power sc_ratio_power fun cdv A outer s H E R G0 W tk hr =>
    (ds_cons (ds_set (i := 2) rfl sc_ratio_power.nd (dglob (v := V.ref t.a_ONE) rfl T.g_ONE rfl T.r_ONE))
    (ds_cons (ds_for (passes_of rfl) (di_range1 (da_cons (dv 1) da_nil) (hm := T.z_range)) (pg_name (i := 3) sc_ratio_power.nd rfl (by first | exact Or.inl rfl | exact Or.inr rfl)) (dtg_name rfl) (ds_one (ds_set (i := 2) rfl sc_ratio_power.nd (de_call (ok_ratio_times T) (hr.mono (by decide)) tk T.g_ratio_times T.F_ratio_times.kp T.b_ratio_times (da_cons (dv 2) (da_cons (dv 0) da_nil))))))
    (ds_one (ds_ret (dv 2)))))
theorem ok__law_times (T : Top K mg t) : FnOk P w K mg base (L2.CX P w) 3 t.a__law_times t.fd__law_times ["_law_a", "_law_b"] (spD K (cx t) [false, false] f__law_times) := def_ok T.F__law_times sc__law_times fun cdv A outer s H E R G0 W tk hr =>
    (ds_one (ds_ret (de_call (ok__law_ratio T) (hr.mono (by decide)) tk T.g__law_ratio T.F__law_ratio.kp T.b__law_ratio (da_cons (de_bin op_mulAll d_mul (de_ix (dv 0) dc_int) (de_ix (dv 1) dc_int)) (da_cons (de_bin op_mulAll d_mul (de_ix (dv 0) dc_int) (de_ix (dv 1) dc_int)) da_nil)))))
theorem ok__law_plus (T : Top K mg t) : FnOk P w K mg base (L2.CX P w) 3 t.a__law_plus t.fd__law_plus ["_law_a", "_law_b"] (spD K (cx t) [false, false] f__law_plus) := def_ok T.F__law_plus sc__law_plus fun cdv A outer s H E R G0 W tk hr =>
    (ds_one (ds_ret (de_call (ok__law_ratio T) (hr.mono (by decide)) tk T.g__law_ratio T.F__law_ratio.kp T.b__law_ratio (da_cons (de_bin op_addAll d_add (de_bin op_mulAll d_mul (de_ix (dv 0) dc_int) (de_ix (dv 1) dc_int)) (de_bin op_mulAll d_mul (de_ix (dv 1) dc_int) (de_ix (dv 0) dc_int))) (da_cons (de_bin op_mulAll d_mul (de_ix (dv 0) dc_int) (de_ix (dv 1) dc_int)) da_nil)))))
theorem ok_ratio_over (T : Top K mg t) : FnOk P w K mg base (L2.CX P w) 3 t.a_ratio_over t.fd_ratio_over ["one", "other"] (spD K (cx t) [false, false] f_ratio_over) := def_ok T.F_ratio_over sc_ratio_over fun cdv A outer s H E R G0 W tk hr =>
    (ds_cons (ds_if (dt_cmp (op_eq2 hr.units) d_eq (de_ix (dv 1) dc_int) dc_int (nomark _)) (ds_one (ds_raise0 rfl tk T.ox_DividedByNought T.i_DividedByNought T.ti_DividedByNought (ok_init_DividedByNought T) (hr.mono (by decide)) T.bi_DividedByNought T.g_DividedByNought rfl)) ds_nil)
    (ds_one (ds_ret (de_call (ok_lowest T) (hr.mono (by decide)) tk T.g_lowest T.F_lowest.kp T.b_lowest (da_cons (de_bin op_mulAll d_mul (de_ix (dv 0) dc_int) (de_ix (dv 1) dc_int)) (da_cons (de_bin op_mulAll d_mul (de_ix (dv 0) dc_int) (de_ix (dv 1) dc_int)) da_nil))))))
theorem ok__law_divided (T : Top K mg t) : FnOk P w K mg base (L2.CX P w) 4 t.a__law_divided t.fd__law_divided ["_law_one", "_law_other"] (spD K (cx t) [false, false] f__law_divided) := def_ok T.F__law_divided sc__law_divided fun cdv A outer s H E R G0 W tk hr =>
    (ds_one (ds_try (T.isA_DividedByNought) ⟨rfl, by decide, Or.inl T.g_DividedByNought⟩ tk (fun W1 pn xe tk1 po1 => (ds_one (ds_ret (de_tup (da_cons dc_str (da_cons (de_call (ok_ratio_over T) (hr.mono (by decide)) tk1 T.g_ratio_over T.F_ratio_over.kp T.b_ratio_over (da_cons (dv 0) (da_cons (dv 1) da_nil))) da_nil)))))) (fun a oe cls d pn hz hf => (ds_one (ds_ret (de_tup (da_cons dc_str (da_cons dc_str da_nil))))))))
theorem ok_ratio_compare (T : Top K mg t) : FnOk P w K mg base (L2.CX P w) 1 t.a_ratio_compare t.fd_ratio_compare ["one", "other"] (spD K (cx t) [false, false] f_ratio_compare) := def_ok T.F_ratio_compare sc_ratio_compare fun cdv A outer s H E R G0 W tk hr =>
    (ds_cons (ds_set (i := 2) rfl sc_ratio_compare.nd (de_bin op_mulAll d_mul (de_ix (dv 0) dc_int) (de_ix (dv 1) dc_int)))
    (ds_cons (ds_set (i := 3) rfl sc_ratio_compare.nd (de_bin op_mulAll d_mul (de_ix (dv 1) dc_int) (de_ix (dv 0) dc_int)))
    (ds_cons (ds_if (dt_cmp op_lt2 d_ord (dv 2) (dv 3) (nomark _)) (ds_one (ds_ret (de_un un_neg d_neg dc_int))) ds_nil)
    (ds_one (ds_ret (de_if (dt_cmp op_gt2 d_ord (dv 2) (dv 3) (nomark _)) dc_int dc_int))))))
theorem ok_ratio_text (T : Top K mg t) : FnOk P w K mg base (L2.CX P w) 1 t.a_ratio_text t.fd_ratio_text ["one"] (spD K (cx t) [false] f_ratio_text) := def_ok T.F_ratio_text sc_ratio_text fun cdv A outer s H E R G0 W tk hr =>
    (ds_cons (ds_if (dt_cmp (op_eq2 hr.units) d_eq (de_ix (dv 0) dc_int) dc_int (nomark _)) (ds_one (ds_ret (de_callTy call_str_int d_str (da_cons (de_ix (dv 0) dc_int) da_nil) (hm := T.z_str)))) ds_nil)
    (ds_one (ds_ret (de_bin op_addAll d_add (de_bin op_addAll d_add (de_callTy call_str_int d_str (da_cons (de_ix (dv 0) dc_int) da_nil) (hm := T.z_str)) dc_str) (de_callTy call_str_int d_str (da_cons (de_ix (dv 0) dc_int) da_nil) (hm := T.z_str))))))
theorem ok__law_text (T : Top K mg t) : FnOk P w K mg base (L2.CX P w) 1 t.a__law_text t.fd__law_text ["_law_one"] (spD K (cx t) [false] f__law_text) := def_ok T.F__law_text sc__law_text fun cdv A outer s H E R G0 W tk hr =>
    (ds_one (ds_ret (de_if (dt_cmp (op_eq2 hr.units) d_eq (de_ix (dv 0) dc_int) dc_int (nomark _)) (de_callTy call_str_int d_str (da_cons (de_ix (dv 0) dc_int) da_nil) (hm := T.z_str)) (de_bin op_addAll d_add (de_bin op_addAll d_add (de_callTy call_str_int d_str (da_cons (de_ix (dv 0) dc_int) da_nil) (hm := T.z_str)) dc_str) (de_callTy call_str_int d_str (da_cons (de_ix (dv 0) dc_int) da_nil) (hm := T.z_str))))))
theorem ok_law (T : Top K mg t) : FnOk P w K mg base (L2.CX P w) 6 t.a_law t.fd_law ["_law_script"] (spD K (cx t) [false] f_law) := def_ok T.F_law sc_law fun cdv A outer s H E R G0 W tk hr =>
    (ds_cons (ds_set (i := 1) rfl sc_law.nd (de_call (ok__law_start T) (hr.mono (by decide)) tk T.g__law_start T.F__law_start.kp T.b__law_start (da_cons (dv 0) da_nil)))
    (ds_cons (ds_set (i := 2) rfl sc_law.nd (de_call (ok__law_number T) (hr.mono (by decide)) tk T.g__law_number T.F__law_number.kp T.b__law_number (da_cons (dv 1) da_nil)))
    (ds_cons (ds_set (i := 3) rfl sc_law.nd (de_call (ok__law_number T) (hr.mono (by decide)) tk T.g__law_number T.F__law_number.kp T.b__law_number (da_cons (dv 1) da_nil)))
    (ds_cons (ds_set (i := 4) rfl sc_law.nd (de_call (ok__law_number T) (hr.mono (by decide)) tk T.g__law_number T.F__law_number.kp T.b__law_number (da_cons (dv 1) da_nil)))
    (ds_cons (ds_set (i := 5) rfl sc_law.nd (de_call (ok__law_number T) (hr.mono (by decide)) tk T.g__law_number T.F__law_number.kp T.b__law_number (da_cons (dv 1) da_nil)))
    (ds_cons (ds_set (i := 6) rfl sc_law.nd (de_call (ok__law_draw T) (hr.mono (by decide)) tk T.g__law_draw T.F__law_draw.kp T.b__law_draw (da_cons (dv 1) (da_cons dc_int da_nil))))
    (ds_cons (ds_if (dt_bool (dw_or (dt_not (dt_tru (de_call (ok__law_made_rightly T) (hr.mono (by decide)) tk T.g__law_made_rightly T.F__law_made_rightly.kp T.b__law_made_rightly (da_cons (dv 2) (da_cons (dv 3) da_nil))))) (dw_or (dt_not (dt_tru (de_call (ok__law_made_rightly T) (hr.mono (by decide)) tk T.g__law_made_rightly T.F__law_made_rightly.kp T.b__law_made_rightly (da_cons (dv 4) (da_cons (dv 5) da_nil))))) (dw_or1 (dt_not (dt_tru (de_call (ok__law_odd_rightly T) (hr.mono (by decide)) tk T.g__law_odd_rightly T.F__law_odd_rightly.kp T.b__law_odd_rightly (da_cons (dv 2) (da_cons (dv 3) da_nil))))))))) (ds_one (ds_ret dc_bl)) ds_nil)
    (ds_cons (ds_if (dt_bool (dw_or (dt_not (dt_tru (de_call (ok__law_whole_rightly T) (hr.mono (by decide)) tk T.g__law_whole_rightly T.F__law_whole_rightly.kp T.b__law_whole_rightly (da_cons (dv 2) (da_cons (dv 4) (da_cons (dv 5) da_nil)))))) (dw_or (dt_cmp (op_ne2 hr.units) d_ne (de_callD (ok_make_ratio T) (hr.mono (by decide)) tk T.g_make_ratio T.F_make_ratio.kp T.b_make_ratio_1.2 T.b_make_ratio_1.1 (fun _ => (.cons (.int _) .nil)) (da_cons (dv 4) da_nil)) (de_tup (da_cons (dv 4) (da_cons dc_int da_nil))) (nomark _)) (dw_or (dt_cmp (op_ne2 hr.units) d_ne (dglob (v := V.ref t.a_ZERO) rfl T.g_ZERO rfl T.r_ZERO) (de_tup (da_cons dc_int (da_cons dc_int da_nil))) (nomark _)) (dw_or1 (dt_cmp (op_ne2 hr.units) d_ne (dglob (v := V.ref t.a_ONE) rfl T.g_ONE rfl T.r_ONE) (de_tup (da_cons dc_int (da_cons dc_int da_nil))) (nomark _))))))) (ds_one (ds_ret dc_bl)) ds_nil)
    (ds_cons (ds_set (i := 7) rfl sc_law.nd (de_call (ok__law_ratio T) (hr.mono (by decide)) tk T.g__law_ratio T.F__law_ratio.kp T.b__law_ratio (da_cons (dv 2) (da_cons (de_if (dt_cmp (op_ne2 hr.units) d_ne (dv 3) dc_int (nomark _)) (dv 3) dc_int) da_nil))))
    (ds_cons (ds_set (i := 8) rfl sc_law.nd (de_call (ok__law_ratio T) (hr.mono (by decide)) tk T.g__law_ratio T.F__law_ratio.kp T.b__law_ratio (da_cons (dv 4) (da_cons (de_if (dt_cmp (op_ne2 hr.units) d_ne (dv 5) dc_int (nomark _)) (dv 5) dc_int) da_nil))))
    (ds_cons (ds_set (i := 9) rfl sc_law.nd (de_tup (da_cons (de_un un_neg d_neg (de_ix (dv 8) dc_int)) (da_cons (de_ix (dv 8) dc_int) da_nil))))
    (ds_cons (ds_set (i := 10) rfl sc_law.nd (de_lst (da_cons (de_call (ok_ratio_plus T) (hr.mono (by decide)) tk T.g_ratio_plus T.F_ratio_plus.kp T.b_ratio_plus (da_cons (dv 7) (da_cons (dv 8) da_nil))) (da_cons (de_call (ok_ratio_minus T) (hr.mono (by decide)) tk T.g_ratio_minus T.F_ratio_minus.kp T.b_ratio_minus (da_cons (dv 7) (da_cons (dv 8) da_nil))) (da_cons (de_call (ok_ratio_times T) (hr.mono (by decide)) tk T.g_ratio_times T.F_ratio_times.kp T.b_ratio_times (da_cons (dv 7) (da_cons (dv 8) da_nil))) (da_cons (de_call (ok_ratio_negative T) (hr.mono (by decide)) tk T.g_ratio_negative T.F_ratio_negative.kp T.b_ratio_negative (da_cons (dv 7) da_nil)) da_nil))))))
    (ds_cons (ds_expr (de_bm PySem.F.plainAttrs_list PySem.F.slot_list_append PySem.F.type_list_append mt_append d_append (dv 10) (da_cons (de_call (ok_ratio_power T) (hr.mono (by decide)) tk T.g_ratio_power T.F_ratio_power.kp T.b_ratio_power (da_cons (dv 7) (da_cons (dv 6) da_nil))) da_nil)))
    (ds_cons (ds_set (i := 11) rfl sc_law.nd (de_lst (da_cons (de_call (ok__law_plus T) (hr.mono (by decide)) tk T.g__law_plus T.F__law_plus.kp T.b__law_plus (da_cons (dv 7) (da_cons (dv 8) da_nil))) (da_cons (de_call (ok__law_plus T) (hr.mono (by decide)) tk T.g__law_plus T.F__law_plus.kp T.b__law_plus (da_cons (dv 7) (da_cons (dv 9) da_nil))) (da_cons (de_call (ok__law_times T) (hr.mono (by decide)) tk T.g__law_times T.F__law_times.kp T.b__law_times (da_cons (dv 7) (da_cons (dv 8) da_nil))) (da_cons (de_tup (da_cons (de_un un_neg d_neg (de_ix (dv 7) dc_int)) (da_cons (de_ix (dv 7) dc_int) da_nil))) da_nil))))))
    (ds_cons (ds_set (i := 12) rfl sc_law.nd (de_tup (da_cons dc_int (da_cons dc_int da_nil))))
    (ds_cons (ds_for (passes_of rfl) (di_range1 (da_cons (dv 6) da_nil) (hm := T.z_range)) (pg_name (i := 13) sc_law.nd rfl (by first | exact Or.inl rfl | exact Or.inr rfl)) (dtg_name rfl) (ds_one (ds_set (i := 12) rfl sc_law.nd (de_call (ok__law_times T) (hr.mono (by decide)) tk T.g__law_times T.F__law_times.kp T.b__law_times (da_cons (dv 12) (da_cons (dv 7) da_nil))))))
    (ds_cons (ds_expr (de_bm PySem.F.plainAttrs_list PySem.F.slot_list_append PySem.F.type_list_append mt_append d_append (dv 11) (da_cons (dv 12) da_nil)))
    (ds_cons (ds_if (dt_bool (dw_or (dt_cmp (op_ne2 hr.units) d_ne (dv 10) (dv 11) (nomark _)) (dw_or1 (dt_not (dt_tru (de_callB (cr_all rfl) d_all (da_cons (de_lc rfl sc_law.nd (di_list (dv 10)) (blkOk_by (own := [("_law_item", 16)]) (N := N_law) (sc := defScope s_law) (by decide +kernel)) (fun _ _ _ _ _ => (pg_name (i := 16) sc_law.nd rfl (by first | exact Or.inl rfl | exact Or.inr rfl))) (dtv_name rfl) (fun _ _ _ _ _ => dts_nil) (fun _ _ _ _ _ => (de_call (ok__law_is_ratio T) (hr.mono (by decide)) takes0 T.g__law_is_ratio T.F__law_is_ratio.kp T.b__law_is_ratio (da_cons (dv 16) da_nil)))) da_nil) (hm := T.z_all))))))) (ds_one (ds_ret dc_bl)) ds_nil)
    (ds_cons (ds_if (dt_cmp (op_eq2 hr.units) d_eq (de_ix (dv 8) dc_int) dc_int (nomark _)) (ds_one (ds_if (dt_cmp (op_ne2 hr.units) d_ne (de_call (ok__law_divided T) (hr.mono (by decide)) tk T.g__law_divided T.F__law_divided.kp T.b__law_divided (da_cons (dv 7) (da_cons (dv 8) da_nil))) (de_tup (da_cons dc_str (da_cons dc_str da_nil))) (nomark _)) (ds_one (ds_ret dc_bl)) ds_nil)) (ds_one (ds_if (dt_cmp (op_ne2 hr.units) d_ne (de_call (ok__law_divided T) (hr.mono (by decide)) tk T.g__law_divided T.F__law_divided.kp T.b__law_divided (da_cons (dv 7) (da_cons (dv 8) da_nil))) (de_tup (da_cons dc_str (da_cons (de_call (ok__law_ratio T) (hr.mono (by decide)) tk T.g__law_ratio T.F__law_ratio.kp T.b__law_ratio (da_cons (de_bin op_mulAll d_mul (de_ix (dv 7) dc_int) (de_ix (dv 8) dc_int)) (da_cons (de_bin op_mulAll d_mul (de_ix (dv 7) dc_int) (de_ix (dv 8) dc_int)) da_nil))) da_nil))) (nomark _)) (ds_one (ds_ret dc_bl)) ds_nil)))
    (ds_cons (ds_set (i := 14) rfl sc_law.nd (de_bin op_sub d_sub (de_bin op_mulAll d_mul (de_ix (dv 7) dc_int) (de_ix (dv 8) dc_int)) (de_bin op_mulAll d_mul (de_ix (dv 8) dc_int) (de_ix (dv 7) dc_int))))
    (ds_cons (ds_set (i := 15) rfl sc_law.nd dc_int)
    (ds_cons (ds_if (dt_cmp (op_ne2 hr.units) d_ne (dv 14) dc_int (nomark _)) (ds_one (ds_set (i := 15) rfl sc_law.nd (de_if (dt_cmp op_gt2 d_ord (dv 14) dc_int (nomark _)) dc_int (de_un un_neg d_neg dc_int)))) ds_nil)
    (ds_cons (ds_if (dt_bool (dw_or (dt_cmp (op_ne2 hr.units) d_ne (de_call (ok_ratio_compare T) (hr.mono (by decide)) tk T.g_ratio_compare T.F_ratio_compare.kp T.b_ratio_compare (da_cons (dv 7) (da_cons (dv 8) da_nil))) (dv 15) (nomark _)) (dw_or (dt_cmp (op_ne2 hr.units) d_ne (de_call (ok_ratio_compare T) (hr.mono (by decide)) tk T.g_ratio_compare T.F_ratio_compare.kp T.b_ratio_compare (da_cons (dv 8) (da_cons (dv 7) da_nil))) (de_un un_neg d_neg (dv 15)) (nomark _)) (dw_or1 (dt_cmp (op_ne2 hr.units) d_ne (de_call (ok_ratio_compare T) (hr.mono (by decide)) tk T.g_ratio_compare T.F_ratio_compare.kp T.b_ratio_compare (da_cons (dv 7) (da_cons (dv 7) da_nil))) dc_int (nomark _)))))) (ds_one (ds_ret dc_bl)) ds_nil)
    (ds_one (ds_ret (de_and (de_cmp (op_eq2 hr.units) d_eq (de_call (ok_ratio_text T) (hr.mono (by decide)) tk T.g_ratio_text T.F_ratio_text.kp T.b_ratio_text (da_cons (dv 7) da_nil)) (de_call (ok__law_text T) (hr.mono (by decide)) tk T.g__law_text T.F__law_text.kp T.b__law_text (da_cons (dv 7) da_nil)) (nomark _)) (de_one (de_cmp (op_eq2 hr.units) d_eq (de_call (ok_ratio_text T) (hr.mono (by decide)) tk T.g_ratio_text T.F_ratio_text.kp T.b_ratio_text (da_cons (dv 8) da_nil)) (de_call (ok__law_text T) (hr.mono (by decide)) tk T.g__law_text T.F__law_text.kp T.b__law_text (da_cons (dv 8) da_nil)) (nomark _)))))))))))))))))))))))))))))
end
end K01
namespace K01
open PySem PySem.Spec L2 DL
def mixedV (n t : Int) : Int := (((((n * 48271 + t * 69621 + 17).fmod 2147483647 * (n * 48271 + t * 69621 + 17).fmod 2147483647 + t * 40692 + 5).fmod 2147483399) * (((n * 48271 + t * 69621 + 17).fmod 2147483647 * (n * 48271 + t * 69621 + 17).fmod 2147483647 + t * 40692 + 5).fmod 2147483399) + (n * 48271 + t * 69621 + 17).fmod 2147483647 * 16807).fmod 2147483563).fdiv 32
theorem mixed_eq (n t : Int) (hn : Sm 1000 n) (ht : Sm 1000 t) : f__law_mixed [.int n, .int t] [] = .ok (.int (mixedV n t)) [] := by
  have k (x : Int) (h : x.natAbs < 2 ^ 31 := by decide) : Sm 31 x := h
  have h1 : bigC n 48271 = true := bigC_of hn (k 48271) (by decide) (by decide) (by decide)
  have h2 : bigC t 69621 = true := bigC_of ht (k 69621) (by decide) (by decide) (by decide)
  have h3 : bigC t 40692 = true := bigC_of ht (k 40692) (by decide) (by decide) (by decide)
  have hh (x : Int) : Sm 31 (x.fmod 2147483647) := Sm.fmod (by decide) (by decide)
  have hg (x : Int) : Sm 31 (x.fmod 2147483399) := Sm.fmod (by decide) (by decide)
  have h4 (x y : Int) : bigC (x.fmod 2147483647) (y.fmod 2147483647) = true := bigC_of (hh _) (hh _) (by decide) (by decide) (by decide)
  have h5 (x y : Int) : bigC (x.fmod 2147483399) (y.fmod 2147483399) = true := bigC_of (hg _) (hg _) (by decide) (by decide) (by decide)
  have h6 (x : Int) : bigC (x.fmod 2147483647) 16807 = true := bigC_of (hh _) (k _) (by decide) (by decide) (by decide)
  have h7 (x : Int) : divC x 32 = true := divC_of (by decide) (k _) (by decide) (by decide)
  simp only [runF, entry, initE, fin, finR, frz_p, frz_ref, frzW_nil, frzW_p, frzW_ref, frzW_map, contN, cont, pds, pds_map, mb, eb, sSeq, sSet, sRet, sRetN, sIf, sNext, sExpr, sBreak, sCont, mVar, mC, mCons, mNil, mTup, fTup, mLst, fLst, mBin, mUn, mCB, mTest, mTru, truF, mAndT, mOrT, mNotT, mAnd, mOr, mNot, mIf, mChain, map_p_nil, map_p_cons, deepV_p, okq_non, okq_bl, okq_int, okq_str, okq_tup, okq_lst, okqs_nil, okqs_cons, fEq_ii, fNe_ii, fEq_ss, fNe_ss, at0, at1, at2, at3, at4, seqOf_tup, seqOf_lst, seqOf_ref, listOf_lst, listOf_ref, fIx_tup, fIx_lst, fIx_ref, ix10, ix20, ix21, ix30, ix31, ix32, ix40, ix41, ix42, ix43, ix50, ix51, ix52, ix53, ix54, ix60, ix61, ix62, ix63, ix64, ix65, ix70, ix71, ix72, ix73, ix74, ix75, ix76, ix80, ix81, ix82, ix83, ix84, ix85, ix86, ix87, fI, fSub, fDiv, fMod, fPow, fNeg, fLt, fLe, fGt, fGe, fOrd, fGcd, fAbs, fInt, fLen, fStr, fIs, fIsNot, isNon, fAdd, fMul, fIsi, tyOfD, tyNm, fAppend, mBM, mBM0, isL, DL.listOf, sSetItem, fSetItem, sPar, sAsg, tgName, tgTup, tgNil, tgCons, kit_ii, kit_bi, kit_ni, kit_si, kit_ti, kit_li, kit_ib, kit_bb, kit_nb, kit_sb, kit_tb, kit_lb, kit_it, kit_bt, kit_nt, kit_st, kit_tt, kit_lt, kit_is, kit_bs, kit_ns, kit_ss, kit_ts, kit_ls, kit_il, kit_bl, kit_nl, kit_sl, kit_tl, kit_ll, mCall, mCallD, callF, pass_nil, pass_p, pass_f, pass_m, callR, nodupB, setCells, yes2, line, range_1, range_2, List.length_cons, List.length_nil, List.getElem?_cons_zero, List.getElem?_cons_succ, List.map_cons, List.map_nil, List.replicate_zero, List.replicate_succ, List.range_zero, List.set_cons_zero, List.set_cons_succ, List.append_nil, List.nil_append, List.cons_append, List.contains_nil, if_true, if_false, ite_true, ite_false, reduceIte, Bool.and_true, Bool.true_and, Bool.not_true, Bool.not_false, Bool.false_and, Bool.and_false, decide_true, decide_false, Nat.reduceLeDiff, Nat.reduceSub, Nat.reduceAdd, Nat.reduceLT, Int.reduceLT, Int.reduceLE, Int.reduceEq, Int.reduceNe, Option.map_some, Option.map_none, Option.bind_some, Option.bind_none, decide_not, ne_eq, not_true_eq_false, not_false_eq_true, reduceCtorEq, and_self, nc0, nc1, nc2, nc3, nc4, nc5, nc6, f__law_mixed, m__law_mixed, h1, h2, h3, h4, h5, h6, h7]
  rfl
/-- the hand: behind at most c draws -/
def Hand (ns : List Int) (c : Nat) (l : List PD) : Prop := ∃ (i cnt : Nat) (big tot : Int), l = [.lst (ns.map .int), .int i, .int big, .int cnt, .int tot] ∧ i ≤ ns.length ∧ 0 ≤ big ∧ cnt ≤ c ∧ 0 ≤ tot ∧ tot < 2147483629
theorem start_loop (scr : D) : ∀ (ns : List Int) (tot : Int) (x : Option D), 0 ≤ tot → tot < 2147483629 → ∃ tot' x', 0 ≤ tot' ∧ tot' < 2147483629 ∧
    loop (tgName 2) b1__law_start ((ns.map PD.int).map D.p) ⟨[some scr, some (.p (.int tot)), x], [], none⟩ =
      .nx ⟨[some scr, some (.p (.int tot')), x'], [], none⟩
  | [], tot, x, h0, h1 => ⟨tot, x, h0, h1, rfl⟩
  | n :: ns, tot, x, h0, h1 => by
    have hb : bigC tot 37 = true := bigC_of (k := 31) (l := 31) (by unfold Sm; omega) (by unfold Sm; decide) (by decide) (by decide) (by decide)
    obtain ⟨t', x', a, b, e⟩ := start_loop scr ns ((tot * 37 + n).fmod 2147483629) (some (.p (.int n))) (Int.fmod_nonneg_of_pos _ (by decide)) (Int.fmod_lt_of_pos _ (by decide))
    refine ⟨t', x', a, b, ?_⟩
    rw [List.map_cons, List.map_cons]
    refine (loop_nx (s2 := ⟨[some scr, some (.p (.int ((tot * 37 + n).fmod 2147483629))), some (.p (.int n))], [], none⟩) rfl ?_).trans e
    simp only [runF, entry, initE, fin, finR, frz_p, frz_ref, frzW_nil, frzW_p, frzW_ref, frzW_map, contN, cont, pds, pds_map, mb, eb, sSeq, sSet, sRet, sRetN, sIf, sNext, sExpr, sBreak, sCont, mVar, mC, mCons, mNil, mTup, fTup, mLst, fLst, mBin, mUn, mCB, mTest, mTru, truF, mAndT, mOrT, mNotT, mAnd, mOr, mNot, mIf, mChain, map_p_nil, map_p_cons, deepV_p, okq_non, okq_bl, okq_int, okq_str, okq_tup, okq_lst, okqs_nil, okqs_cons, fEq_ii, fNe_ii, fEq_ss, fNe_ss, at0, at1, at2, at3, at4, seqOf_tup, seqOf_lst, seqOf_ref, listOf_lst, listOf_ref, fIx_tup, fIx_lst, fIx_ref, ix10, ix20, ix21, ix30, ix31, ix32, ix40, ix41, ix42, ix43, ix50, ix51, ix52, ix53, ix54, ix60, ix61, ix62, ix63, ix64, ix65, ix70, ix71, ix72, ix73, ix74, ix75, ix76, ix80, ix81, ix82, ix83, ix84, ix85, ix86, ix87, fI, fSub, fDiv, fMod, fPow, fNeg, fLt, fLe, fGt, fGe, fOrd, fGcd, fAbs, fInt, fLen, fStr, fIs, fIsNot, isNon, fAdd, fMul, fIsi, tyOfD, tyNm, fAppend, mBM, mBM0, isL, DL.listOf, sSetItem, fSetItem, sPar, sAsg, tgName, tgTup, tgNil, tgCons, kit_ii, kit_bi, kit_ni, kit_si, kit_ti, kit_li, kit_ib, kit_bb, kit_nb, kit_sb, kit_tb, kit_lb, kit_it, kit_bt, kit_nt, kit_st, kit_tt, kit_lt, kit_is, kit_bs, kit_ns, kit_ss, kit_ts, kit_ls, kit_il, kit_bl, kit_nl, kit_sl, kit_tl, kit_ll, mCall, mCallD, callF, pass_nil, pass_p, pass_f, pass_m, callR, nodupB, setCells, yes2, line, range_1, range_2, List.length_cons, List.length_nil, List.getElem?_cons_zero, List.getElem?_cons_succ, List.map_cons, List.map_nil, List.replicate_zero, List.replicate_succ, List.range_zero, List.set_cons_zero, List.set_cons_succ, List.append_nil, List.nil_append, List.cons_append, List.contains_nil, if_true, if_false, ite_true, ite_false, reduceIte, Bool.and_true, Bool.true_and, Bool.not_true, Bool.not_false, Bool.false_and, Bool.and_false, decide_true, decide_false, Nat.reduceLeDiff, Nat.reduceSub, Nat.reduceAdd, Nat.reduceLT, Int.reduceLT, Int.reduceLE, Int.reduceEq, Int.reduceNe, Option.map_some, Option.map_none, Option.bind_some, Option.bind_none, decide_not, ne_eq, not_true_eq_false, not_false_eq_true, reduceCtorEq, and_self, nc0, nc1, nc2, nc3, nc4, nc5, nc6, b1__law_start, hb]
theorem start_eq (ns : List Int) (hl : ns.length ≤ 63) : ∃ l, f__law_start [.lst (ns.map .int)] [] = .new l [] ∧ Hand ns 0 l := by
  obtain ⟨t', x', a, b, e⟩ := start_loop (.p (.lst (ns.map .int))) ns 0 none (by decide) (by decide)
  have hc := mLc_map (mi := mItl (mVar 0)) (f := tgName 2) (e := e1__law_start) (g := id) (vs := [2]) (s := ⟨[some (.p (.lst (ns.map .int))), some (.p (.int t')), x'], [], none⟩) (s1 := ⟨[some (.p (.lst (ns.map .int))), some (.p (.int t')), x'], [], none⟩) (ds := ns.map .int)
    (by simp only [runF, entry, initE, fin, finR, frz_p, frz_ref, frzW_nil, frzW_p, frzW_ref, frzW_map, contN, cont, pds, pds_map, mb, eb, sSeq, sSet, sRet, sRetN, sIf, sNext, sExpr, sBreak, sCont, mVar, mC, mCons, mNil, mTup, fTup, mLst, fLst, mBin, mUn, mCB, mTest, mTru, truF, mAndT, mOrT, mNotT, mAnd, mOr, mNot, mIf, mChain, map_p_nil, map_p_cons, deepV_p, okq_non, okq_bl, okq_int, okq_str, okq_tup, okq_lst, okqs_nil, okqs_cons, fEq_ii, fNe_ii, fEq_ss, fNe_ss, at0, at1, at2, at3, at4, seqOf_tup, seqOf_lst, seqOf_ref, listOf_lst, listOf_ref, fIx_tup, fIx_lst, fIx_ref, ix10, ix20, ix21, ix30, ix31, ix32, ix40, ix41, ix42, ix43, ix50, ix51, ix52, ix53, ix54, ix60, ix61, ix62, ix63, ix64, ix65, ix70, ix71, ix72, ix73, ix74, ix75, ix76, ix80, ix81, ix82, ix83, ix84, ix85, ix86, ix87, fI, fSub, fDiv, fMod, fPow, fNeg, fLt, fLe, fGt, fGe, fOrd, fGcd, fAbs, fInt, fLen, fStr, fIs, fIsNot, isNon, fAdd, fMul, fIsi, tyOfD, tyNm, fAppend, mBM, mBM0, isL, DL.listOf, sSetItem, fSetItem, sPar, sAsg, tgName, tgTup, tgNil, tgCons, kit_ii, kit_bi, kit_ni, kit_si, kit_ti, kit_li, kit_ib, kit_bb, kit_nb, kit_sb, kit_tb, kit_lb, kit_it, kit_bt, kit_nt, kit_st, kit_tt, kit_lt, kit_is, kit_bs, kit_ns, kit_ss, kit_ts, kit_ls, kit_il, kit_bl, kit_nl, kit_sl, kit_tl, kit_ll, mCall, mCallD, callF, pass_nil, pass_p, pass_f, pass_m, callR, nodupB, setCells, yes2, line, range_1, range_2, List.length_cons, List.length_nil, List.getElem?_cons_zero, List.getElem?_cons_succ, List.map_cons, List.map_nil, List.replicate_zero, List.replicate_succ, List.range_zero, List.set_cons_zero, List.set_cons_succ, List.append_nil, List.nil_append, List.cons_append, List.contains_nil, if_true, if_false, ite_true, ite_false, reduceIte, Bool.and_true, Bool.true_and, Bool.not_true, Bool.not_false, Bool.false_and, Bool.and_false, decide_true, decide_false, Nat.reduceLeDiff, Nat.reduceSub, Nat.reduceAdd, Nat.reduceLT, Int.reduceLT, Int.reduceLE, Int.reduceEq, Int.reduceNe, Option.map_some, Option.map_none, Option.bind_some, Option.bind_none, decide_not, ne_eq, not_true_eq_false, not_false_eq_true, reduceCtorEq, and_self, nc0, nc1, nc2, nc3, nc4, nc5, nc6, mItl]) rfl (by
      intro d hd acc
      obtain ⟨n, _, rfl⟩ := List.mem_map.mp hd
      refine ⟨[some (.p (.lst (ns.map .int))), some (.p (.int t')), some (.p (.int n))], [some (.p (.lst (ns.map .int))), some (.p (.int t')), some (.p (.int n))], rfl, ?_⟩
      simp only [runF, entry, initE, fin, finR, frz_p, frz_ref, frzW_nil, frzW_p, frzW_ref, frzW_map, contN, cont, pds, pds_map, mb, eb, sSeq, sSet, sRet, sRetN, sIf, sNext, sExpr, sBreak, sCont, mVar, mC, mCons, mNil, mTup, fTup, mLst, fLst, mBin, mUn, mCB, mTest, mTru, truF, mAndT, mOrT, mNotT, mAnd, mOr, mNot, mIf, mChain, map_p_nil, map_p_cons, deepV_p, okq_non, okq_bl, okq_int, okq_str, okq_tup, okq_lst, okqs_nil, okqs_cons, fEq_ii, fNe_ii, fEq_ss, fNe_ss, at0, at1, at2, at3, at4, seqOf_tup, seqOf_lst, seqOf_ref, listOf_lst, listOf_ref, fIx_tup, fIx_lst, fIx_ref, ix10, ix20, ix21, ix30, ix31, ix32, ix40, ix41, ix42, ix43, ix50, ix51, ix52, ix53, ix54, ix60, ix61, ix62, ix63, ix64, ix65, ix70, ix71, ix72, ix73, ix74, ix75, ix76, ix80, ix81, ix82, ix83, ix84, ix85, ix86, ix87, fI, fSub, fDiv, fMod, fPow, fNeg, fLt, fLe, fGt, fGe, fOrd, fGcd, fAbs, fInt, fLen, fStr, fIs, fIsNot, isNon, fAdd, fMul, fIsi, tyOfD, tyNm, fAppend, mBM, mBM0, isL, DL.listOf, sSetItem, fSetItem, sPar, sAsg, tgName, tgTup, tgNil, tgCons, kit_ii, kit_bi, kit_ni, kit_si, kit_ti, kit_li, kit_ib, kit_bb, kit_nb, kit_sb, kit_tb, kit_lb, kit_it, kit_bt, kit_nt, kit_st, kit_tt, kit_lt, kit_is, kit_bs, kit_ns, kit_ss, kit_ts, kit_ls, kit_il, kit_bl, kit_nl, kit_sl, kit_tl, kit_ll, mCall, mCallD, callF, pass_nil, pass_p, pass_f, pass_m, callR, nodupB, setCells, yes2, line, range_1, range_2, List.length_cons, List.length_nil, List.getElem?_cons_zero, List.getElem?_cons_succ, List.map_cons, List.map_nil, List.replicate_zero, List.replicate_succ, List.range_zero, List.set_cons_zero, List.set_cons_succ, List.append_nil, List.nil_append, List.cons_append, List.contains_nil, if_true, if_false, ite_true, ite_false, reduceIte, Bool.and_true, Bool.true_and, Bool.not_true, Bool.not_false, Bool.false_and, Bool.and_false, decide_true, decide_false, Nat.reduceLeDiff, Nat.reduceSub, Nat.reduceAdd, Nat.reduceLT, Int.reduceLT, Int.reduceLE, Int.reduceEq, Int.reduceNe, Option.map_some, Option.map_none, Option.bind_some, Option.bind_none, decide_not, ne_eq, not_true_eq_false, not_false_eq_true, reduceCtorEq, and_self, nc0, nc1, nc2, nc3, nc4, nc5, nc6, e1__law_start, id]) (by rw [List.length_map]; unfold line; omega)
  rw [List.map_id] at hc
  have hc' : l1__law_start ⟨[some (.p (.lst (ns.map .int))), some (.p (.int t')), x'], [], none⟩ = .ok (.ref 0) ⟨[some (.p (.lst (ns.map .int))), some (.p (.int t')), x'], [.lst ((ns.map PD.int).map D.p)], none⟩ := hc
  refine ⟨[.lst (ns.map .int), .int 0, .int 0, .int 0, .int t'], ?_, 0, 0, 0, t', rfl, by omega, by decide, by decide, a, b⟩
  simp only [runF, entry, initE, fin, finR, frz_p, frz_ref, frzW_nil, frzW_p, frzW_ref, frzW_map, contN, cont, pds, pds_map, mb, eb, sSeq, sSet, sRet, sRetN, sIf, sNext, sExpr, sBreak, sCont, mVar, mC, mCons, mNil, mTup, fTup, mLst, fLst, mBin, mUn, mCB, mTest, mTru, truF, mAndT, mOrT, mNotT, mAnd, mOr, mNot, mIf, mChain, map_p_nil, map_p_cons, deepV_p, okq_non, okq_bl, okq_int, okq_str, okq_tup, okq_lst, okqs_nil, okqs_cons, fEq_ii, fNe_ii, fEq_ss, fNe_ss, at0, at1, at2, at3, at4, seqOf_tup, seqOf_lst, seqOf_ref, listOf_lst, listOf_ref, fIx_tup, fIx_lst, fIx_ref, ix10, ix20, ix21, ix30, ix31, ix32, ix40, ix41, ix42, ix43, ix50, ix51, ix52, ix53, ix54, ix60, ix61, ix62, ix63, ix64, ix65, ix70, ix71, ix72, ix73, ix74, ix75, ix76, ix80, ix81, ix82, ix83, ix84, ix85, ix86, ix87, fI, fSub, fDiv, fMod, fPow, fNeg, fLt, fLe, fGt, fGe, fOrd, fGcd, fAbs, fInt, fLen, fStr, fIs, fIsNot, isNon, fAdd, fMul, fIsi, tyOfD, tyNm, fAppend, mBM, mBM0, isL, DL.listOf, sSetItem, fSetItem, sPar, sAsg, tgName, tgTup, tgNil, tgCons, kit_ii, kit_bi, kit_ni, kit_si, kit_ti, kit_li, kit_ib, kit_bb, kit_nb, kit_sb, kit_tb, kit_lb, kit_it, kit_bt, kit_nt, kit_st, kit_tt, kit_lt, kit_is, kit_bs, kit_ns, kit_ss, kit_ts, kit_ls, kit_il, kit_bl, kit_nl, kit_sl, kit_tl, kit_ll, mCall, mCallD, callF, pass_nil, pass_p, pass_f, pass_m, callR, nodupB, setCells, yes2, line, range_1, range_2, List.length_cons, List.length_nil, List.getElem?_cons_zero, List.getElem?_cons_succ, List.map_cons, List.map_nil, List.replicate_zero, List.replicate_succ, List.range_zero, List.set_cons_zero, List.set_cons_succ, List.append_nil, List.nil_append, List.cons_append, List.contains_nil, if_true, if_false, ite_true, ite_false, reduceIte, Bool.and_true, Bool.true_and, Bool.not_true, Bool.not_false, Bool.false_and, Bool.and_false, decide_true, decide_false, Nat.reduceLeDiff, Nat.reduceSub, Nat.reduceAdd, Nat.reduceLT, Int.reduceLT, Int.reduceLE, Int.reduceEq, Int.reduceNe, Option.map_some, Option.map_none, Option.bind_some, Option.bind_none, decide_not, ne_eq, not_true_eq_false, not_false_eq_true, reduceCtorEq, and_self, nc0, nc1, nc2, nc3, nc4, nc5, nc6, f__law_start, m__law_start, sFor, mItl, e, hc']
theorem cell_at (ns : List Int) (i : Nat) (n : Int) (h : ns[i]? = some n) : atI ((ns.map PD.int).map D.p) (i : Int) = some (.p (.int n)) := by
  refine atNat ?_
  rw [List.getElem?_map, List.getElem?_map, h] <;> rfl
theorem draw_eq {ns : List Int} {c : Nat} {l : List PD} {many : Int} (H : Hand ns c l) (hc : c < 10000) (h0 : 0 < many) (hm : Sm 8000 many) : ∃ r l', f__law_draw [.int many] [l] = .ok (.int r) [l'] ∧ 0 ≤ r ∧ r < many ∧ Hand ns (c + 1) l' := by
  obtain ⟨i, cnt, big, tot, rfl, hi, hb, hcn, ht0, ht1⟩ := H
  have h9 : many ≠ 0 := by omega
  have hs : powC 10 18 = true := by decide
  have hd (x : Int) : divC x many = true := divC_of h9 hm (by decide) (by decide)
  have r0 (x : Int) : 0 ≤ x.fmod many := Int.fmod_nonneg_of_pos _ h0
  have r1 (x : Int) : x.fmod many < many := Int.fmod_lt_of_pos _ h0
  have ct : Sm 1000 ((cnt : Int) + 1) := Sm.of_le (n := 20000) (by omega) (by decide)
  have keep : ∀ (j : Nat) (b : Int), j ≤ ns.length → 0 ≤ b → Hand ns (c + 1) [.lst (ns.map .int), .int j, .int b, .int ((cnt : Int) + 1), .int tot] := fun j b h1 h2 => ⟨j, cnt + 1, b, tot, rfl, h1, h2, by omega, ht0, ht1⟩
  have bdiv (b : Int) (hb : 0 ≤ b) : 0 ≤ b.fdiv many := Int.fdiv_nonneg hb (by omega)
  -- the mixed draw
  have mt := mixed_eq tot ((cnt : Int) + 1) (Sm.of_le (n := 2147483629) (by omega) (by decide)) ct
  by_cases q : big = 0 ∧ i < ns.length
  · obtain ⟨q1, q2⟩ := q
    have hcell := cell_at ns i ns[i] (List.getElem?_eq_getElem q2)
    have q2' : (i : Int) < (ns.length : Int) := by omega
    by_cases hk : (if ns[i] < 0 then -ns[i] else ns[i]) < (10 : Int) ^ (Int.toNat 18)
    · have mc := mixed_eq ns[i] ((cnt : Int) + 1) (by
        have e : (10 : Int) ^ (Int.toNat 18) = 1000000000000000000 := by decide
        rw [e] at hk
        refine Sm.of_le (n := 1000000000000000000) ?_ (by decide)
        split at hk <;> omega) ct
      refine ⟨(mixedV ns[i] ((cnt : Int) + 1)).fmod many, _, ?_, r0 _, r1 _, keep (i + 1) 0 (by omega) (by decide)⟩
      simp only [runF, entry, initE, fin, finR, frz_p, frz_ref, frzW_nil, frzW_p, frzW_ref, frzW_map, contN, cont, pds, pds_map, mb, eb, sSeq, sSet, sRet, sRetN, sIf, sNext, sExpr, sBreak, sCont, mVar, mC, mCons, mNil, mTup, fTup, mLst, fLst, mBin, mUn, mCB, mTest, mTru, truF, mAndT, mOrT, mNotT, mAnd, mOr, mNot, mIf, mChain, map_p_nil, map_p_cons, deepV_p, okq_non, okq_bl, okq_int, okq_str, okq_tup, okq_lst, okqs_nil, okqs_cons, fEq_ii, fNe_ii, fEq_ss, fNe_ss, at0, at1, at2, at3, at4, seqOf_tup, seqOf_lst, seqOf_ref, listOf_lst, listOf_ref, fIx_tup, fIx_lst, fIx_ref, ix10, ix20, ix21, ix30, ix31, ix32, ix40, ix41, ix42, ix43, ix50, ix51, ix52, ix53, ix54, ix60, ix61, ix62, ix63, ix64, ix65, ix70, ix71, ix72, ix73, ix74, ix75, ix76, ix80, ix81, ix82, ix83, ix84, ix85, ix86, ix87, fI, fSub, fDiv, fMod, fPow, fNeg, fLt, fLe, fGt, fGe, fOrd, fGcd, fAbs, fInt, fLen, fStr, fIs, fIsNot, isNon, fAdd, fMul, fIsi, tyOfD, tyNm, fAppend, mBM, mBM0, isL, DL.listOf, sSetItem, fSetItem, sPar, sAsg, tgName, tgTup, tgNil, tgCons, kit_ii, kit_bi, kit_ni, kit_si, kit_ti, kit_li, kit_ib, kit_bb, kit_nb, kit_sb, kit_tb, kit_lb, kit_it, kit_bt, kit_nt, kit_st, kit_tt, kit_lt, kit_is, kit_bs, kit_ns, kit_ss, kit_ts, kit_ls, kit_il, kit_bl, kit_nl, kit_sl, kit_tl, kit_ll, mCall, mCallD, callF, pass_nil, pass_p, pass_f, pass_m, callR, nodupB, setCells, yes2, line, range_1, range_2, List.length_cons, List.length_nil, List.getElem?_cons_zero, List.getElem?_cons_succ, List.map_cons, List.map_nil, List.replicate_zero, List.replicate_succ, List.range_zero, List.set_cons_zero, List.set_cons_succ, List.append_nil, List.nil_append, List.cons_append, List.contains_nil, if_true, if_false, ite_true, ite_false, reduceIte, Bool.and_true, Bool.true_and, Bool.not_true, Bool.not_false, Bool.false_and, Bool.and_false, decide_true, decide_false, Nat.reduceLeDiff, Nat.reduceSub, Nat.reduceAdd, Nat.reduceLT, Int.reduceLT, Int.reduceLE, Int.reduceEq, Int.reduceNe, Option.map_some, Option.map_none, Option.bind_some, Option.bind_none, decide_not, ne_eq, not_true_eq_false, not_false_eq_true, reduceCtorEq, and_self, nc0, nc1, nc2, nc3, nc4, nc5, nc6, f__law_draw, m__law_draw, q1, q2', hcell, hs, mc, hk, h9, List.length_map]
      rfl
    · by_cases hz : 0 < (if ns[i] < 0 then -ns[i] else ns[i])
      · refine ⟨(if ns[i] < 0 then -ns[i] else ns[i]).fmod many, _, ?_, r0 _, r1 _, keep (i + 1) ((if ns[i] < 0 then -ns[i] else ns[i]).fdiv many) (by omega) (bdiv _ (by omega))⟩
        simp only [runF, entry, initE, fin, finR, frz_p, frz_ref, frzW_nil, frzW_p, frzW_ref, frzW_map, contN, cont, pds, pds_map, mb, eb, sSeq, sSet, sRet, sRetN, sIf, sNext, sExpr, sBreak, sCont, mVar, mC, mCons, mNil, mTup, fTup, mLst, fLst, mBin, mUn, mCB, mTest, mTru, truF, mAndT, mOrT, mNotT, mAnd, mOr, mNot, mIf, mChain, map_p_nil, map_p_cons, deepV_p, okq_non, okq_bl, okq_int, okq_str, okq_tup, okq_lst, okqs_nil, okqs_cons, fEq_ii, fNe_ii, fEq_ss, fNe_ss, at0, at1, at2, at3, at4, seqOf_tup, seqOf_lst, seqOf_ref, listOf_lst, listOf_ref, fIx_tup, fIx_lst, fIx_ref, ix10, ix20, ix21, ix30, ix31, ix32, ix40, ix41, ix42, ix43, ix50, ix51, ix52, ix53, ix54, ix60, ix61, ix62, ix63, ix64, ix65, ix70, ix71, ix72, ix73, ix74, ix75, ix76, ix80, ix81, ix82, ix83, ix84, ix85, ix86, ix87, fI, fSub, fDiv, fMod, fPow, fNeg, fLt, fLe, fGt, fGe, fOrd, fGcd, fAbs, fInt, fLen, fStr, fIs, fIsNot, isNon, fAdd, fMul, fIsi, tyOfD, tyNm, fAppend, mBM, mBM0, isL, DL.listOf, sSetItem, fSetItem, sPar, sAsg, tgName, tgTup, tgNil, tgCons, kit_ii, kit_bi, kit_ni, kit_si, kit_ti, kit_li, kit_ib, kit_bb, kit_nb, kit_sb, kit_tb, kit_lb, kit_it, kit_bt, kit_nt, kit_st, kit_tt, kit_lt, kit_is, kit_bs, kit_ns, kit_ss, kit_ts, kit_ls, kit_il, kit_bl, kit_nl, kit_sl, kit_tl, kit_ll, mCall, mCallD, callF, pass_nil, pass_p, pass_f, pass_m, callR, nodupB, setCells, yes2, line, range_1, range_2, List.length_cons, List.length_nil, List.getElem?_cons_zero, List.getElem?_cons_succ, List.map_cons, List.map_nil, List.replicate_zero, List.replicate_succ, List.range_zero, List.set_cons_zero, List.set_cons_succ, List.append_nil, List.nil_append, List.cons_append, List.contains_nil, if_true, if_false, ite_true, ite_false, reduceIte, Bool.and_true, Bool.true_and, Bool.not_true, Bool.not_false, Bool.false_and, Bool.and_false, decide_true, decide_false, Nat.reduceLeDiff, Nat.reduceSub, Nat.reduceAdd, Nat.reduceLT, Int.reduceLT, Int.reduceLE, Int.reduceEq, Int.reduceNe, Option.map_some, Option.map_none, Option.bind_some, Option.bind_none, decide_not, ne_eq, not_true_eq_false, not_false_eq_true, reduceCtorEq, and_self, nc0, nc1, nc2, nc3, nc4, nc5, nc6, f__law_draw, m__law_draw, q1, q2', hcell, hs, hk, h9, hz, hd, List.length_map]
        rfl
      · exfalso
        refine hk ?_
        have e : (10 : Int) ^ (Int.toNat 18) = 1000000000000000000 := by decide
        rw [e]
        omega
  · have q' : (big = 0 → ¬ (i : Int) < (ns.length : Int)) := fun h1 h2 => q ⟨h1, by omega⟩
    by_cases hz : 0 < big
    · have hz' : ¬ big = 0 := by omega
      refine ⟨big.fmod many, _, ?_, r0 _, r1 _, keep i (big.fdiv many) hi (bdiv _ hb)⟩
      simp only [runF, entry, initE, fin, finR, frz_p, frz_ref, frzW_nil, frzW_p, frzW_ref, frzW_map, contN, cont, pds, pds_map, mb, eb, sSeq, sSet, sRet, sRetN, sIf, sNext, sExpr, sBreak, sCont, mVar, mC, mCons, mNil, mTup, fTup, mLst, fLst, mBin, mUn, mCB, mTest, mTru, truF, mAndT, mOrT, mNotT, mAnd, mOr, mNot, mIf, mChain, map_p_nil, map_p_cons, deepV_p, okq_non, okq_bl, okq_int, okq_str, okq_tup, okq_lst, okqs_nil, okqs_cons, fEq_ii, fNe_ii, fEq_ss, fNe_ss, at0, at1, at2, at3, at4, seqOf_tup, seqOf_lst, seqOf_ref, listOf_lst, listOf_ref, fIx_tup, fIx_lst, fIx_ref, ix10, ix20, ix21, ix30, ix31, ix32, ix40, ix41, ix42, ix43, ix50, ix51, ix52, ix53, ix54, ix60, ix61, ix62, ix63, ix64, ix65, ix70, ix71, ix72, ix73, ix74, ix75, ix76, ix80, ix81, ix82, ix83, ix84, ix85, ix86, ix87, fI, fSub, fDiv, fMod, fPow, fNeg, fLt, fLe, fGt, fGe, fOrd, fGcd, fAbs, fInt, fLen, fStr, fIs, fIsNot, isNon, fAdd, fMul, fIsi, tyOfD, tyNm, fAppend, mBM, mBM0, isL, DL.listOf, sSetItem, fSetItem, sPar, sAsg, tgName, tgTup, tgNil, tgCons, kit_ii, kit_bi, kit_ni, kit_si, kit_ti, kit_li, kit_ib, kit_bb, kit_nb, kit_sb, kit_tb, kit_lb, kit_it, kit_bt, kit_nt, kit_st, kit_tt, kit_lt, kit_is, kit_bs, kit_ns, kit_ss, kit_ts, kit_ls, kit_il, kit_bl, kit_nl, kit_sl, kit_tl, kit_ll, mCall, mCallD, callF, pass_nil, pass_p, pass_f, pass_m, callR, nodupB, setCells, yes2, line, range_1, range_2, List.length_cons, List.length_nil, List.getElem?_cons_zero, List.getElem?_cons_succ, List.map_cons, List.map_nil, List.replicate_zero, List.replicate_succ, List.range_zero, List.set_cons_zero, List.set_cons_succ, List.append_nil, List.nil_append, List.cons_append, List.contains_nil, if_true, if_false, ite_true, ite_false, reduceIte, Bool.and_true, Bool.true_and, Bool.not_true, Bool.not_false, Bool.false_and, Bool.and_false, decide_true, decide_false, Nat.reduceLeDiff, Nat.reduceSub, Nat.reduceAdd, Nat.reduceLT, Int.reduceLT, Int.reduceLE, Int.reduceEq, Int.reduceNe, Option.map_some, Option.map_none, Option.bind_some, Option.bind_none, decide_not, ne_eq, not_true_eq_false, not_false_eq_true, reduceCtorEq, and_self, nc0, nc1, nc2, nc3, nc4, nc5, nc6, f__law_draw, m__law_draw, hz', h9, hz, hd, List.length_map]
    · have hz0 : big = 0 := by omega
      subst hz0
      have q2 := q' rfl
      refine ⟨(mixedV tot ((cnt : Int) + 1)).fmod many, _, ?_, r0 _, r1 _, keep i 0 hi (by decide)⟩
      simp only [runF, entry, initE, fin, finR, frz_p, frz_ref, frzW_nil, frzW_p, frzW_ref, frzW_map, contN, cont, pds, pds_map, mb, eb, sSeq, sSet, sRet, sRetN, sIf, sNext, sExpr, sBreak, sCont, mVar, mC, mCons, mNil, mTup, fTup, mLst, fLst, mBin, mUn, mCB, mTest, mTru, truF, mAndT, mOrT, mNotT, mAnd, mOr, mNot, mIf, mChain, map_p_nil, map_p_cons, deepV_p, okq_non, okq_bl, okq_int, okq_str, okq_tup, okq_lst, okqs_nil, okqs_cons, fEq_ii, fNe_ii, fEq_ss, fNe_ss, at0, at1, at2, at3, at4, seqOf_tup, seqOf_lst, seqOf_ref, listOf_lst, listOf_ref, fIx_tup, fIx_lst, fIx_ref, ix10, ix20, ix21, ix30, ix31, ix32, ix40, ix41, ix42, ix43, ix50, ix51, ix52, ix53, ix54, ix60, ix61, ix62, ix63, ix64, ix65, ix70, ix71, ix72, ix73, ix74, ix75, ix76, ix80, ix81, ix82, ix83, ix84, ix85, ix86, ix87, fI, fSub, fDiv, fMod, fPow, fNeg, fLt, fLe, fGt, fGe, fOrd, fGcd, fAbs, fInt, fLen, fStr, fIs, fIsNot, isNon, fAdd, fMul, fIsi, tyOfD, tyNm, fAppend, mBM, mBM0, isL, DL.listOf, sSetItem, fSetItem, sPar, sAsg, tgName, tgTup, tgNil, tgCons, kit_ii, kit_bi, kit_ni, kit_si, kit_ti, kit_li, kit_ib, kit_bb, kit_nb, kit_sb, kit_tb, kit_lb, kit_it, kit_bt, kit_nt, kit_st, kit_tt, kit_lt, kit_is, kit_bs, kit_ns, kit_ss, kit_ts, kit_ls, kit_il, kit_bl, kit_nl, kit_sl, kit_tl, kit_ll, mCall, mCallD, callF, pass_nil, pass_p, pass_f, pass_m, callR, nodupB, setCells, yes2, line, range_1, range_2, List.length_cons, List.length_nil, List.getElem?_cons_zero, List.getElem?_cons_succ, List.map_cons, List.map_nil, List.replicate_zero, List.replicate_succ, List.range_zero, List.set_cons_zero, List.set_cons_succ, List.append_nil, List.nil_append, List.cons_append, List.contains_nil, if_true, if_false, ite_true, ite_false, reduceIte, Bool.and_true, Bool.true_and, Bool.not_true, Bool.not_false, Bool.false_and, Bool.and_false, decide_true, decide_false, Nat.reduceLeDiff, Nat.reduceSub, Nat.reduceAdd, Nat.reduceLT, Int.reduceLT, Int.reduceLE, Int.reduceEq, Int.reduceNe, Option.map_some, Option.map_none, Option.bind_some, Option.bind_none, decide_not, ne_eq, not_true_eq_false, not_false_eq_true, reduceCtorEq, and_self, nc0, nc1, nc2, nc3, nc4, nc5, nc6, f__law_draw, m__law_draw, q2, h9, mt, List.length_map]
end K01
namespace K01
open PySem PySem.Spec L2 DL
theorem fmod_nat (a b : Nat) : ((a : Int)).fmod (b : Int) = ((a % b : Nat) : Int) := by
  rw [Int.fmod_eq_emod_of_nonneg _ (by omega)]
  exact (Int.natCast_emod a b).symm
theorem gcd_stop {d : D} {r : List D} {a : Int} {b : Nat} (x : Option D) (hb : b = 0) : loop (tgName 2) b1__law_gcd (d :: r) ⟨[some (.p (.int a)), some (.p (.int (b : Int))), x], [], none⟩ = .nx ⟨[some (.p (.int a)), some (.p (.int (b : Int))), some d], [], none⟩ := by
  have hz : ((b : Int) = 0) := by omega
  refine loop_bk rfl ?_
  simp only [runF, entry, initE, fin, finR, frz_p, frz_ref, frzW_nil, frzW_p, frzW_ref, frzW_map, contN, cont, pds, pds_map, mb, eb, sSeq, sSet, sRet, sRetN, sIf, sNext, sExpr, sBreak, sCont, mVar, mC, mCons, mNil, mTup, fTup, mLst, fLst, mBin, mUn, mCB, mTest, mTru, truF, mAndT, mOrT, mNotT, mAnd, mOr, mNot, mIf, mChain, map_p_nil, map_p_cons, deepV_p, okq_non, okq_bl, okq_int, okq_str, okq_tup, okq_lst, okqs_nil, okqs_cons, fEq_ii, fNe_ii, fEq_ss, fNe_ss, at0, at1, at2, at3, at4, seqOf_tup, seqOf_lst, seqOf_ref, listOf_lst, listOf_ref, fIx_tup, fIx_lst, fIx_ref, ix10, ix20, ix21, ix30, ix31, ix32, ix40, ix41, ix42, ix43, ix50, ix51, ix52, ix53, ix54, ix60, ix61, ix62, ix63, ix64, ix65, ix70, ix71, ix72, ix73, ix74, ix75, ix76, ix80, ix81, ix82, ix83, ix84, ix85, ix86, ix87, fI, fSub, fDiv, fMod, fPow, fNeg, fLt, fLe, fGt, fGe, fOrd, fGcd, fAbs, fInt, fLen, fStr, fIs, fIsNot, isNon, fAdd, fMul, fIsi, tyOfD, tyNm, fAppend, mBM, mBM0, isL, DL.listOf, sSetItem, fSetItem, sPar, sAsg, tgName, tgTup, tgNil, tgCons, kit_ii, kit_bi, kit_ni, kit_si, kit_ti, kit_li, kit_ib, kit_bb, kit_nb, kit_sb, kit_tb, kit_lb, kit_it, kit_bt, kit_nt, kit_st, kit_tt, kit_lt, kit_is, kit_bs, kit_ns, kit_ss, kit_ts, kit_ls, kit_il, kit_bl, kit_nl, kit_sl, kit_tl, kit_ll, mCall, mCallD, callF, pass_nil, pass_p, pass_f, pass_m, callR, nodupB, setCells, yes2, line, range_1, range_2, List.length_cons, List.length_nil, List.getElem?_cons_zero, List.getElem?_cons_succ, List.map_cons, List.map_nil, List.replicate_zero, List.replicate_succ, List.range_zero, List.set_cons_zero, List.set_cons_succ, List.append_nil, List.nil_append, List.cons_append, List.contains_nil, if_true, if_false, ite_true, ite_false, reduceIte, Bool.and_true, Bool.true_and, Bool.not_true, Bool.not_false, Bool.false_and, Bool.and_false, decide_true, decide_false, Nat.reduceLeDiff, Nat.reduceSub, Nat.reduceAdd, Nat.reduceLT, Int.reduceLT, Int.reduceLE, Int.reduceEq, Int.reduceNe, Option.map_some, Option.map_none, Option.bind_some, Option.bind_none, decide_not, ne_eq, not_true_eq_false, not_false_eq_true, reduceCtorEq, and_self, nc0, nc1, nc2, nc3, nc4, nc5, nc6, b1__law_gcd, hz]
theorem gcd_step {d : D} {r : List D} {a b : Nat} (x : Option D) (hb : b ≠ 0) : loop (tgName 2) b1__law_gcd (d :: r) ⟨[some (.p (.int (a : Int))), some (.p (.int (b : Int))), x], [], none⟩ = loop (tgName 2) b1__law_gcd r ⟨[some (.p (.int (b : Int))), some (.p (.int ((a % b : Nat) : Int))), some d], [], none⟩ := by
  have hz : ¬ ((b : Int) = 0) := by omega
  refine loop_nx rfl ?_
  simp only [runF, entry, initE, fin, finR, frz_p, frz_ref, frzW_nil, frzW_p, frzW_ref, frzW_map, contN, cont, pds, pds_map, mb, eb, sSeq, sSet, sRet, sRetN, sIf, sNext, sExpr, sBreak, sCont, mVar, mC, mCons, mNil, mTup, fTup, mLst, fLst, mBin, mUn, mCB, mTest, mTru, truF, mAndT, mOrT, mNotT, mAnd, mOr, mNot, mIf, mChain, map_p_nil, map_p_cons, deepV_p, okq_non, okq_bl, okq_int, okq_str, okq_tup, okq_lst, okqs_nil, okqs_cons, fEq_ii, fNe_ii, fEq_ss, fNe_ss, at0, at1, at2, at3, at4, seqOf_tup, seqOf_lst, seqOf_ref, listOf_lst, listOf_ref, fIx_tup, fIx_lst, fIx_ref, ix10, ix20, ix21, ix30, ix31, ix32, ix40, ix41, ix42, ix43, ix50, ix51, ix52, ix53, ix54, ix60, ix61, ix62, ix63, ix64, ix65, ix70, ix71, ix72, ix73, ix74, ix75, ix76, ix80, ix81, ix82, ix83, ix84, ix85, ix86, ix87, fI, fSub, fDiv, fMod, fPow, fNeg, fLt, fLe, fGt, fGe, fOrd, fGcd, fAbs, fInt, fLen, fStr, fIs, fIsNot, isNon, fAdd, fMul, fIsi, tyOfD, tyNm, fAppend, mBM, mBM0, isL, DL.listOf, sSetItem, fSetItem, sPar, sAsg, tgName, tgTup, tgNil, tgCons, kit_ii, kit_bi, kit_ni, kit_si, kit_ti, kit_li, kit_ib, kit_bb, kit_nb, kit_sb, kit_tb, kit_lb, kit_it, kit_bt, kit_nt, kit_st, kit_tt, kit_lt, kit_is, kit_bs, kit_ns, kit_ss, kit_ts, kit_ls, kit_il, kit_bl, kit_nl, kit_sl, kit_tl, kit_ll, mCall, mCallD, callF, pass_nil, pass_p, pass_f, pass_m, callR, nodupB, setCells, yes2, line, range_1, range_2, List.length_cons, List.length_nil, List.getElem?_cons_zero, List.getElem?_cons_succ, List.map_cons, List.map_nil, List.replicate_zero, List.replicate_succ, List.range_zero, List.set_cons_zero, List.set_cons_succ, List.append_nil, List.nil_append, List.cons_append, List.contains_nil, if_true, if_false, ite_true, ite_false, reduceIte, Bool.and_true, Bool.true_and, Bool.not_true, Bool.not_false, Bool.false_and, Bool.and_false, decide_true, decide_false, Nat.reduceLeDiff, Nat.reduceSub, Nat.reduceAdd, Nat.reduceLT, Int.reduceLT, Int.reduceLE, Int.reduceEq, Int.reduceNe, Option.map_some, Option.map_none, Option.bind_some, Option.bind_none, decide_not, ne_eq, not_true_eq_false, not_false_eq_true, reduceCtorEq, and_self, nc0, nc1, nc2, nc3, nc4, nc5, nc6, b1__law_gcd, hz, fmod_nat]
theorem gcd_mod (a b : Nat) : Nat.gcd b (a % b) = Nat.gcd a b := by
  rw [Nat.gcd_comm b, Nat.gcd_comm a, Nat.gcd_rec b a]
theorem gcd_loop : ∀ (L : Nat) (items : List D) (a b : Nat) (x : Option D), b < 2 ^ L → 2 * L < items.length → ∃ y z, loop (tgName 2) b1__law_gcd items ⟨[some (.p (.int (a : Int))), some (.p (.int (b : Int))), x], [], none⟩ = .nx ⟨[some (.p (.int ((Nat.gcd a b : Nat) : Int))), y, z], [], none⟩
  | L, [], a, b, x, _, hl => by simp at hl
  | 0, d :: r, a, b, x, hb, hl => by
    have hb0 : b = 0 := by simpa using hb
    refine ⟨some (.p (.int (b : Int))), some d, ?_⟩
    rw [gcd_stop x hb0, hb0, Nat.gcd_zero_right]
  | L + 1, d :: r, a, b, x, hb, hl => by
    by_cases hb0 : b = 0
    · refine ⟨some (.p (.int (b : Int))), some d, ?_⟩
      rw [gcd_stop x hb0, hb0, Nat.gcd_zero_right]
    · rw [gcd_step x hb0]
      rw [List.length_cons] at hl
      have hp : 2 ^ (L + 1) = 2 ^ L + 2 ^ L := by rw [Nat.pow_succ]; omega
      by_cases hc : a % b < 2 ^ L
      · obtain ⟨y, z, e⟩ := gcd_loop L r b (a % b) (some d) hc (by omega)
        exact ⟨y, z, by rw [e, gcd_mod]⟩
      · have hlt : a % b < b := Nat.mod_lt _ (by omega)
        have hc0 : a % b ≠ 0 := by
          intro h
          rw [h] at hc
          exact hc (Nat.pow_pos (by decide))
        match r, hl with
        | d2 :: r2, hl =>
          rw [gcd_step _ hc0]
          rw [List.length_cons] at hl
          have h2 : b % (a % b) < 2 ^ L := by
            have e1 : b % (a % b) = (b - (a % b)) % (a % b) := Nat.mod_eq_sub_mod (by omega)
            have e2 : b - (a % b) < 2 ^ L := by omega
            have e3 : (b - (a % b)) % (a % b) = b - (a % b) := Nat.mod_eq_of_lt (by omega)
            omega
          obtain ⟨y, z, e⟩ := gcd_loop L r2 (a % b) (b % (a % b)) (some d2) h2 (by omega)
          exact ⟨y, z, by rw [e, gcd_mod, gcd_mod]⟩
theorem absI (a : Int) : (if a < 0 then -a else a) = ((a.natAbs : Nat) : Int) := by
  split <;> omega
theorem lgcd_eq {a b : Int} (hb : Sm 4000 b) : f__law_gcd [.int a, .int b] [] = .ok (.int (gI a b)) [] := by
  obtain ⟨y, z, e⟩ := gcd_loop 4000 (rng 0 9000) a.natAbs b.natAbs none hb (by rw [rng_len]; decide)
  have hl : lim62 9000 = true := by decide
  simp only [runF, entry, initE, fin, finR, frz_p, frz_ref, frzW_nil, frzW_p, frzW_ref, frzW_map, contN, cont, pds, pds_map, mb, eb, sSeq, sSet, sRet, sRetN, sIf, sNext, sExpr, sBreak, sCont, mVar, mC, mCons, mNil, mTup, fTup, mLst, fLst, mBin, mUn, mCB, mTest, mTru, truF, mAndT, mOrT, mNotT, mAnd, mOr, mNot, mIf, mChain, map_p_nil, map_p_cons, deepV_p, okq_non, okq_bl, okq_int, okq_str, okq_tup, okq_lst, okqs_nil, okqs_cons, fEq_ii, fNe_ii, fEq_ss, fNe_ss, at0, at1, at2, at3, at4, seqOf_tup, seqOf_lst, seqOf_ref, listOf_lst, listOf_ref, fIx_tup, fIx_lst, fIx_ref, ix10, ix20, ix21, ix30, ix31, ix32, ix40, ix41, ix42, ix43, ix50, ix51, ix52, ix53, ix54, ix60, ix61, ix62, ix63, ix64, ix65, ix70, ix71, ix72, ix73, ix74, ix75, ix76, ix80, ix81, ix82, ix83, ix84, ix85, ix86, ix87, fI, fSub, fDiv, fMod, fPow, fNeg, fLt, fLe, fGt, fGe, fOrd, fGcd, fAbs, fInt, fLen, fStr, fIs, fIsNot, isNon, fAdd, fMul, fIsi, tyOfD, tyNm, fAppend, mBM, mBM0, isL, DL.listOf, sSetItem, fSetItem, sPar, sAsg, tgName, tgTup, tgNil, tgCons, kit_ii, kit_bi, kit_ni, kit_si, kit_ti, kit_li, kit_ib, kit_bb, kit_nb, kit_sb, kit_tb, kit_lb, kit_it, kit_bt, kit_nt, kit_st, kit_tt, kit_lt, kit_is, kit_bs, kit_ns, kit_ss, kit_ts, kit_ls, kit_il, kit_bl, kit_nl, kit_sl, kit_tl, kit_ll, mCall, mCallD, callF, pass_nil, pass_p, pass_f, pass_m, callR, nodupB, setCells, yes2, line, range_1, range_2, List.length_cons, List.length_nil, List.getElem?_cons_zero, List.getElem?_cons_succ, List.map_cons, List.map_nil, List.replicate_zero, List.replicate_succ, List.range_zero, List.set_cons_zero, List.set_cons_succ, List.append_nil, List.nil_append, List.cons_append, List.contains_nil, if_true, if_false, ite_true, ite_false, reduceIte, Bool.and_true, Bool.true_and, Bool.not_true, Bool.not_false, Bool.false_and, Bool.and_false, decide_true, decide_false, Nat.reduceLeDiff, Nat.reduceSub, Nat.reduceAdd, Nat.reduceLT, Int.reduceLT, Int.reduceLE, Int.reduceEq, Int.reduceNe, Option.map_some, Option.map_none, Option.bind_some, Option.bind_none, decide_not, ne_eq, not_true_eq_false, not_false_eq_true, reduceCtorEq, and_self, nc0, nc1, nc2, nc3, nc4, nc5, nc6, f__law_gcd, m__law_gcd, sFor, fRng1, hl, absI, Int.reduceToNat, e]
  rfl
theorem lratio_eq {a b : Int} (h0 : b ≠ 0) (hb : Sm 4000 b) : f__law_ratio [.int a, .int b] [] = .ok (rat (low a b)) [] := by
  have hg := gI_pos (a := a) h0
  have sg : Sm 4000 (gI a b) := by
    refine hb.le ?_
    unfold gI
    rw [Int.natAbs_natCast]
    exact Nat.le_of_dvd (by omega) (Nat.gcd_dvd_right _ _)
  have hd (x : Int) : divC x (gI a b) = true := divC_of (by omega) sg (by decide) (by decide)
  by_cases hn : b < 0
  · have e1 := lgcd_eq (a := -a) (b := -b) hb.neg
    rw [gI_neg] at e1
    simp only [runF, entry, initE, fin, finR, frz_p, frz_ref, frzW_nil, frzW_p, frzW_ref, frzW_map, contN, cont, pds, pds_map, mb, eb, sSeq, sSet, sRet, sRetN, sIf, sNext, sExpr, sBreak, sCont, mVar, mC, mCons, mNil, mTup, fTup, mLst, fLst, mBin, mUn, mCB, mTest, mTru, truF, mAndT, mOrT, mNotT, mAnd, mOr, mNot, mIf, mChain, map_p_nil, map_p_cons, deepV_p, okq_non, okq_bl, okq_int, okq_str, okq_tup, okq_lst, okqs_nil, okqs_cons, fEq_ii, fNe_ii, fEq_ss, fNe_ss, at0, at1, at2, at3, at4, seqOf_tup, seqOf_lst, seqOf_ref, listOf_lst, listOf_ref, fIx_tup, fIx_lst, fIx_ref, ix10, ix20, ix21, ix30, ix31, ix32, ix40, ix41, ix42, ix43, ix50, ix51, ix52, ix53, ix54, ix60, ix61, ix62, ix63, ix64, ix65, ix70, ix71, ix72, ix73, ix74, ix75, ix76, ix80, ix81, ix82, ix83, ix84, ix85, ix86, ix87, fI, fSub, fDiv, fMod, fPow, fNeg, fLt, fLe, fGt, fGe, fOrd, fGcd, fAbs, fInt, fLen, fStr, fIs, fIsNot, isNon, fAdd, fMul, fIsi, tyOfD, tyNm, fAppend, mBM, mBM0, isL, DL.listOf, sSetItem, fSetItem, sPar, sAsg, tgName, tgTup, tgNil, tgCons, kit_ii, kit_bi, kit_ni, kit_si, kit_ti, kit_li, kit_ib, kit_bb, kit_nb, kit_sb, kit_tb, kit_lb, kit_it, kit_bt, kit_nt, kit_st, kit_tt, kit_lt, kit_is, kit_bs, kit_ns, kit_ss, kit_ts, kit_ls, kit_il, kit_bl, kit_nl, kit_sl, kit_tl, kit_ll, mCall, mCallD, callF, pass_nil, pass_p, pass_f, pass_m, callR, nodupB, setCells, yes2, line, range_1, range_2, List.length_cons, List.length_nil, List.getElem?_cons_zero, List.getElem?_cons_succ, List.map_cons, List.map_nil, List.replicate_zero, List.replicate_succ, List.range_zero, List.set_cons_zero, List.set_cons_succ, List.append_nil, List.nil_append, List.cons_append, List.contains_nil, if_true, if_false, ite_true, ite_false, reduceIte, Bool.and_true, Bool.true_and, Bool.not_true, Bool.not_false, Bool.false_and, Bool.and_false, decide_true, decide_false, Nat.reduceLeDiff, Nat.reduceSub, Nat.reduceAdd, Nat.reduceLT, Int.reduceLT, Int.reduceLE, Int.reduceEq, Int.reduceNe, Option.map_some, Option.map_none, Option.bind_some, Option.bind_none, decide_not, ne_eq, not_true_eq_false, not_false_eq_true, reduceCtorEq, and_self, nc0, nc1, nc2, nc3, nc4, nc5, nc6, f__law_ratio, m__law_ratio, hn, e1, hd]
    rw [low_abs h0, if_pos hn] <;> rfl
  · have e1 := lgcd_eq (a := a) (b := b) hb
    simp only [runF, entry, initE, fin, finR, frz_p, frz_ref, frzW_nil, frzW_p, frzW_ref, frzW_map, contN, cont, pds, pds_map, mb, eb, sSeq, sSet, sRet, sRetN, sIf, sNext, sExpr, sBreak, sCont, mVar, mC, mCons, mNil, mTup, fTup, mLst, fLst, mBin, mUn, mCB, mTest, mTru, truF, mAndT, mOrT, mNotT, mAnd, mOr, mNot, mIf, mChain, map_p_nil, map_p_cons, deepV_p, okq_non, okq_bl, okq_int, okq_str, okq_tup, okq_lst, okqs_nil, okqs_cons, fEq_ii, fNe_ii, fEq_ss, fNe_ss, at0, at1, at2, at3, at4, seqOf_tup, seqOf_lst, seqOf_ref, listOf_lst, listOf_ref, fIx_tup, fIx_lst, fIx_ref, ix10, ix20, ix21, ix30, ix31, ix32, ix40, ix41, ix42, ix43, ix50, ix51, ix52, ix53, ix54, ix60, ix61, ix62, ix63, ix64, ix65, ix70, ix71, ix72, ix73, ix74, ix75, ix76, ix80, ix81, ix82, ix83, ix84, ix85, ix86, ix87, fI, fSub, fDiv, fMod, fPow, fNeg, fLt, fLe, fGt, fGe, fOrd, fGcd, fAbs, fInt, fLen, fStr, fIs, fIsNot, isNon, fAdd, fMul, fIsi, tyOfD, tyNm, fAppend, mBM, mBM0, isL, DL.listOf, sSetItem, fSetItem, sPar, sAsg, tgName, tgTup, tgNil, tgCons, kit_ii, kit_bi, kit_ni, kit_si, kit_ti, kit_li, kit_ib, kit_bb, kit_nb, kit_sb, kit_tb, kit_lb, kit_it, kit_bt, kit_nt, kit_st, kit_tt, kit_lt, kit_is, kit_bs, kit_ns, kit_ss, kit_ts, kit_ls, kit_il, kit_bl, kit_nl, kit_sl, kit_tl, kit_ll, mCall, mCallD, callF, pass_nil, pass_p, pass_f, pass_m, callR, nodupB, setCells, yes2, line, range_1, range_2, List.length_cons, List.length_nil, List.getElem?_cons_zero, List.getElem?_cons_succ, List.map_cons, List.map_nil, List.replicate_zero, List.replicate_succ, List.range_zero, List.set_cons_zero, List.set_cons_succ, List.append_nil, List.nil_append, List.cons_append, List.contains_nil, if_true, if_false, ite_true, ite_false, reduceIte, Bool.and_true, Bool.true_and, Bool.not_true, Bool.not_false, Bool.false_and, Bool.and_false, decide_true, decide_false, Nat.reduceLeDiff, Nat.reduceSub, Nat.reduceAdd, Nat.reduceLT, Int.reduceLT, Int.reduceLE, Int.reduceEq, Int.reduceNe, Option.map_some, Option.map_none, Option.bind_some, Option.bind_none, decide_not, ne_eq, not_true_eq_false, not_false_eq_true, reduceCtorEq, and_self, nc0, nc1, nc2, nc3, nc4, nc5, nc6, f__law_ratio, m__law_ratio, hn, e1, hd]
    rw [low_abs h0, if_neg hn] <;> rfl
theorem lowest_eq {a b : Int} (h0 : b ≠ 0) (hb : Sm 4000 b) : f_lowest [.int a, .int b] [] = .ok (rat (low a b)) [] := by
  have hg := gI_pos (a := a) h0
  have sg : Sm 4000 (gI a b) := by
    refine hb.le ?_
    unfold gI
    rw [Int.natAbs_natCast]
    exact Nat.le_of_dvd (by omega) (Nat.gcd_dvd_right _ _)
  have eg : ((Nat.gcd a.natAbs b.natAbs : Nat) : Int) = gI a b := rfl
  by_cases hn : b < 0
  · have hd (x : Int) : divC x (-gI a b) = true := divC_of (by omega) sg.neg (by decide) (by decide)
    simp only [runF, entry, initE, fin, finR, frz_p, frz_ref, frzW_nil, frzW_p, frzW_ref, frzW_map, contN, cont, pds, pds_map, mb, eb, sSeq, sSet, sRet, sRetN, sIf, sNext, sExpr, sBreak, sCont, mVar, mC, mCons, mNil, mTup, fTup, mLst, fLst, mBin, mUn, mCB, mTest, mTru, truF, mAndT, mOrT, mNotT, mAnd, mOr, mNot, mIf, mChain, map_p_nil, map_p_cons, deepV_p, okq_non, okq_bl, okq_int, okq_str, okq_tup, okq_lst, okqs_nil, okqs_cons, fEq_ii, fNe_ii, fEq_ss, fNe_ss, at0, at1, at2, at3, at4, seqOf_tup, seqOf_lst, seqOf_ref, listOf_lst, listOf_ref, fIx_tup, fIx_lst, fIx_ref, ix10, ix20, ix21, ix30, ix31, ix32, ix40, ix41, ix42, ix43, ix50, ix51, ix52, ix53, ix54, ix60, ix61, ix62, ix63, ix64, ix65, ix70, ix71, ix72, ix73, ix74, ix75, ix76, ix80, ix81, ix82, ix83, ix84, ix85, ix86, ix87, fI, fSub, fDiv, fMod, fPow, fNeg, fLt, fLe, fGt, fGe, fOrd, fGcd, fAbs, fInt, fLen, fStr, fIs, fIsNot, isNon, fAdd, fMul, fIsi, tyOfD, tyNm, fAppend, mBM, mBM0, isL, DL.listOf, sSetItem, fSetItem, sPar, sAsg, tgName, tgTup, tgNil, tgCons, kit_ii, kit_bi, kit_ni, kit_si, kit_ti, kit_li, kit_ib, kit_bb, kit_nb, kit_sb, kit_tb, kit_lb, kit_it, kit_bt, kit_nt, kit_st, kit_tt, kit_lt, kit_is, kit_bs, kit_ns, kit_ss, kit_ts, kit_ls, kit_il, kit_bl, kit_nl, kit_sl, kit_tl, kit_ll, mCall, mCallD, callF, pass_nil, pass_p, pass_f, pass_m, callR, nodupB, setCells, yes2, line, range_1, range_2, List.length_cons, List.length_nil, List.getElem?_cons_zero, List.getElem?_cons_succ, List.map_cons, List.map_nil, List.replicate_zero, List.replicate_succ, List.range_zero, List.set_cons_zero, List.set_cons_succ, List.append_nil, List.nil_append, List.cons_append, List.contains_nil, if_true, if_false, ite_true, ite_false, reduceIte, Bool.and_true, Bool.true_and, Bool.not_true, Bool.not_false, Bool.false_and, Bool.and_false, decide_true, decide_false, Nat.reduceLeDiff, Nat.reduceSub, Nat.reduceAdd, Nat.reduceLT, Int.reduceLT, Int.reduceLE, Int.reduceEq, Int.reduceNe, Option.map_some, Option.map_none, Option.bind_some, Option.bind_none, decide_not, ne_eq, not_true_eq_false, not_false_eq_true, reduceCtorEq, and_self, nc0, nc1, nc2, nc3, nc4, nc5, nc6, f_lowest, m_lowest, hn, hd, eg]
    unfold low
    rw [if_pos hn] <;> rfl
  · have hd (x : Int) : divC x (gI a b) = true := divC_of (by omega) sg (by decide) (by decide)
    simp only [runF, entry, initE, fin, finR, frz_p, frz_ref, frzW_nil, frzW_p, frzW_ref, frzW_map, contN, cont, pds, pds_map, mb, eb, sSeq, sSet, sRet, sRetN, sIf, sNext, sExpr, sBreak, sCont, mVar, mC, mCons, mNil, mTup, fTup, mLst, fLst, mBin, mUn, mCB, mTest, mTru, truF, mAndT, mOrT, mNotT, mAnd, mOr, mNot, mIf, mChain, map_p_nil, map_p_cons, deepV_p, okq_non, okq_bl, okq_int, okq_str, okq_tup, okq_lst, okqs_nil, okqs_cons, fEq_ii, fNe_ii, fEq_ss, fNe_ss, at0, at1, at2, at3, at4, seqOf_tup, seqOf_lst, seqOf_ref, listOf_lst, listOf_ref, fIx_tup, fIx_lst, fIx_ref, ix10, ix20, ix21, ix30, ix31, ix32, ix40, ix41, ix42, ix43, ix50, ix51, ix52, ix53, ix54, ix60, ix61, ix62, ix63, ix64, ix65, ix70, ix71, ix72, ix73, ix74, ix75, ix76, ix80, ix81, ix82, ix83, ix84, ix85, ix86, ix87, fI, fSub, fDiv, fMod, fPow, fNeg, fLt, fLe, fGt, fGe, fOrd, fGcd, fAbs, fInt, fLen, fStr, fIs, fIsNot, isNon, fAdd, fMul, fIsi, tyOfD, tyNm, fAppend, mBM, mBM0, isL, DL.listOf, sSetItem, fSetItem, sPar, sAsg, tgName, tgTup, tgNil, tgCons, kit_ii, kit_bi, kit_ni, kit_si, kit_ti, kit_li, kit_ib, kit_bb, kit_nb, kit_sb, kit_tb, kit_lb, kit_it, kit_bt, kit_nt, kit_st, kit_tt, kit_lt, kit_is, kit_bs, kit_ns, kit_ss, kit_ts, kit_ls, kit_il, kit_bl, kit_nl, kit_sl, kit_tl, kit_ll, mCall, mCallD, callF, pass_nil, pass_p, pass_f, pass_m, callR, nodupB, setCells, yes2, line, range_1, range_2, List.length_cons, List.length_nil, List.getElem?_cons_zero, List.getElem?_cons_succ, List.map_cons, List.map_nil, List.replicate_zero, List.replicate_succ, List.range_zero, List.set_cons_zero, List.set_cons_succ, List.append_nil, List.nil_append, List.cons_append, List.contains_nil, if_true, if_false, ite_true, ite_false, reduceIte, Bool.and_true, Bool.true_and, Bool.not_true, Bool.not_false, Bool.false_and, Bool.and_false, decide_true, decide_false, Nat.reduceLeDiff, Nat.reduceSub, Nat.reduceAdd, Nat.reduceLT, Int.reduceLT, Int.reduceLE, Int.reduceEq, Int.reduceNe, Option.map_some, Option.map_none, Option.bind_some, Option.bind_none, decide_not, ne_eq, not_true_eq_false, not_false_eq_true, reduceCtorEq, and_self, nc0, nc1, nc2, nc3, nc4, nc5, nc6, f_lowest, m_lowest, hn, hd, eg]
    unfold low
    rw [if_neg hn] <;> rfl
end K01
namespace K01
open PySem PySem.Spec L2 DL
theorem whole_int (a : Int) : f_is_whole [.int a, .non, .non] [] = .ok (.bl true) [] := by simp only [runF, entry, initE, fin, finR, frz_p, frz_ref, frzW_nil, frzW_p, frzW_ref, frzW_map, contN, cont, pds, pds_map, mb, eb, sSeq, sSet, sRet, sRetN, sIf, sNext, sExpr, sBreak, sCont, mVar, mC, mCons, mNil, mTup, fTup, mLst, fLst, mBin, mUn, mCB, mTest, mTru, truF, mAndT, mOrT, mNotT, mAnd, mOr, mNot, mIf, mChain, map_p_nil, map_p_cons, deepV_p, okq_non, okq_bl, okq_int, okq_str, okq_tup, okq_lst, okqs_nil, okqs_cons, fEq_ii, fNe_ii, fEq_ss, fNe_ss, at0, at1, at2, at3, at4, seqOf_tup, seqOf_lst, seqOf_ref, listOf_lst, listOf_ref, fIx_tup, fIx_lst, fIx_ref, ix10, ix20, ix21, ix30, ix31, ix32, ix40, ix41, ix42, ix43, ix50, ix51, ix52, ix53, ix54, ix60, ix61, ix62, ix63, ix64, ix65, ix70, ix71, ix72, ix73, ix74, ix75, ix76, ix80, ix81, ix82, ix83, ix84, ix85, ix86, ix87, fI, fSub, fDiv, fMod, fPow, fNeg, fLt, fLe, fGt, fGe, fOrd, fGcd, fAbs, fInt, fLen, fStr, fIs, fIsNot, isNon, fAdd, fMul, fIsi, tyOfD, tyNm, fAppend, mBM, mBM0, isL, DL.listOf, sSetItem, fSetItem, sPar, sAsg, tgName, tgTup, tgNil, tgCons, kit_ii, kit_bi, kit_ni, kit_si, kit_ti, kit_li, kit_ib, kit_bb, kit_nb, kit_sb, kit_tb, kit_lb, kit_it, kit_bt, kit_nt, kit_st, kit_tt, kit_lt, kit_is, kit_bs, kit_ns, kit_ss, kit_ts, kit_ls, kit_il, kit_bl, kit_nl, kit_sl, kit_tl, kit_ll, mCall, mCallD, callF, pass_nil, pass_p, pass_f, pass_m, callR, nodupB, setCells, yes2, line, range_1, range_2, List.length_cons, List.length_nil, List.getElem?_cons_zero, List.getElem?_cons_succ, List.map_cons, List.map_nil, List.replicate_zero, List.replicate_succ, List.range_zero, List.set_cons_zero, List.set_cons_succ, List.append_nil, List.nil_append, List.cons_append, List.contains_nil, if_true, if_false, ite_true, ite_false, reduceIte, Bool.and_true, Bool.true_and, Bool.not_true, Bool.not_false, Bool.false_and, Bool.and_false, decide_true, decide_false, Nat.reduceLeDiff, Nat.reduceSub, Nat.reduceAdd, Nat.reduceLT, Int.reduceLT, Int.reduceLE, Int.reduceEq, Int.reduceNe, Option.map_some, Option.map_none, Option.bind_some, Option.bind_none, decide_not, ne_eq, not_true_eq_false, not_false_eq_true, reduceCtorEq, and_self, nc0, nc1, nc2, nc3, nc4, nc5, nc6, f_is_whole, m_is_whole]
theorem whole_lo (a l : Int) : f_is_whole [.int a, .int l, .non] [] = .ok (.bl (decide (l ≤ a))) [] := by
  by_cases h : a < l
  · have h2 : ¬ l ≤ a := by omega
    simp only [runF, entry, initE, fin, finR, frz_p, frz_ref, frzW_nil, frzW_p, frzW_ref, frzW_map, contN, cont, pds, pds_map, mb, eb, sSeq, sSet, sRet, sRetN, sIf, sNext, sExpr, sBreak, sCont, mVar, mC, mCons, mNil, mTup, fTup, mLst, fLst, mBin, mUn, mCB, mTest, mTru, truF, mAndT, mOrT, mNotT, mAnd, mOr, mNot, mIf, mChain, map_p_nil, map_p_cons, deepV_p, okq_non, okq_bl, okq_int, okq_str, okq_tup, okq_lst, okqs_nil, okqs_cons, fEq_ii, fNe_ii, fEq_ss, fNe_ss, at0, at1, at2, at3, at4, seqOf_tup, seqOf_lst, seqOf_ref, listOf_lst, listOf_ref, fIx_tup, fIx_lst, fIx_ref, ix10, ix20, ix21, ix30, ix31, ix32, ix40, ix41, ix42, ix43, ix50, ix51, ix52, ix53, ix54, ix60, ix61, ix62, ix63, ix64, ix65, ix70, ix71, ix72, ix73, ix74, ix75, ix76, ix80, ix81, ix82, ix83, ix84, ix85, ix86, ix87, fI, fSub, fDiv, fMod, fPow, fNeg, fLt, fLe, fGt, fGe, fOrd, fGcd, fAbs, fInt, fLen, fStr, fIs, fIsNot, isNon, fAdd, fMul, fIsi, tyOfD, tyNm, fAppend, mBM, mBM0, isL, DL.listOf, sSetItem, fSetItem, sPar, sAsg, tgName, tgTup, tgNil, tgCons, kit_ii, kit_bi, kit_ni, kit_si, kit_ti, kit_li, kit_ib, kit_bb, kit_nb, kit_sb, kit_tb, kit_lb, kit_it, kit_bt, kit_nt, kit_st, kit_tt, kit_lt, kit_is, kit_bs, kit_ns, kit_ss, kit_ts, kit_ls, kit_il, kit_bl, kit_nl, kit_sl, kit_tl, kit_ll, mCall, mCallD, callF, pass_nil, pass_p, pass_f, pass_m, callR, nodupB, setCells, yes2, line, range_1, range_2, List.length_cons, List.length_nil, List.getElem?_cons_zero, List.getElem?_cons_succ, List.map_cons, List.map_nil, List.replicate_zero, List.replicate_succ, List.range_zero, List.set_cons_zero, List.set_cons_succ, List.append_nil, List.nil_append, List.cons_append, List.contains_nil, if_true, if_false, ite_true, ite_false, reduceIte, Bool.and_true, Bool.true_and, Bool.not_true, Bool.not_false, Bool.false_and, Bool.and_false, decide_true, decide_false, Nat.reduceLeDiff, Nat.reduceSub, Nat.reduceAdd, Nat.reduceLT, Int.reduceLT, Int.reduceLE, Int.reduceEq, Int.reduceNe, Option.map_some, Option.map_none, Option.bind_some, Option.bind_none, decide_not, ne_eq, not_true_eq_false, not_false_eq_true, reduceCtorEq, and_self, nc0, nc1, nc2, nc3, nc4, nc5, nc6, f_is_whole, m_is_whole, h, h2]
  · have h2 : l ≤ a := by omega
    simp only [runF, entry, initE, fin, finR, frz_p, frz_ref, frzW_nil, frzW_p, frzW_ref, frzW_map, contN, cont, pds, pds_map, mb, eb, sSeq, sSet, sRet, sRetN, sIf, sNext, sExpr, sBreak, sCont, mVar, mC, mCons, mNil, mTup, fTup, mLst, fLst, mBin, mUn, mCB, mTest, mTru, truF, mAndT, mOrT, mNotT, mAnd, mOr, mNot, mIf, mChain, map_p_nil, map_p_cons, deepV_p, okq_non, okq_bl, okq_int, okq_str, okq_tup, okq_lst, okqs_nil, okqs_cons, fEq_ii, fNe_ii, fEq_ss, fNe_ss, at0, at1, at2, at3, at4, seqOf_tup, seqOf_lst, seqOf_ref, listOf_lst, listOf_ref, fIx_tup, fIx_lst, fIx_ref, ix10, ix20, ix21, ix30, ix31, ix32, ix40, ix41, ix42, ix43, ix50, ix51, ix52, ix53, ix54, ix60, ix61, ix62, ix63, ix64, ix65, ix70, ix71, ix72, ix73, ix74, ix75, ix76, ix80, ix81, ix82, ix83, ix84, ix85, ix86, ix87, fI, fSub, fDiv, fMod, fPow, fNeg, fLt, fLe, fGt, fGe, fOrd, fGcd, fAbs, fInt, fLen, fStr, fIs, fIsNot, isNon, fAdd, fMul, fIsi, tyOfD, tyNm, fAppend, mBM, mBM0, isL, DL.listOf, sSetItem, fSetItem, sPar, sAsg, tgName, tgTup, tgNil, tgCons, kit_ii, kit_bi, kit_ni, kit_si, kit_ti, kit_li, kit_ib, kit_bb, kit_nb, kit_sb, kit_tb, kit_lb, kit_it, kit_bt, kit_nt, kit_st, kit_tt, kit_lt, kit_is, kit_bs, kit_ns, kit_ss, kit_ts, kit_ls, kit_il, kit_bl, kit_nl, kit_sl, kit_tl, kit_ll, mCall, mCallD, callF, pass_nil, pass_p, pass_f, pass_m, callR, nodupB, setCells, yes2, line, range_1, range_2, List.length_cons, List.length_nil, List.getElem?_cons_zero, List.getElem?_cons_succ, List.map_cons, List.map_nil, List.replicate_zero, List.replicate_succ, List.range_zero, List.set_cons_zero, List.set_cons_succ, List.append_nil, List.nil_append, List.cons_append, List.contains_nil, if_true, if_false, ite_true, ite_false, reduceIte, Bool.and_true, Bool.true_and, Bool.not_true, Bool.not_false, Bool.false_and, Bool.and_false, decide_true, decide_false, Nat.reduceLeDiff, Nat.reduceSub, Nat.reduceAdd, Nat.reduceLT, Int.reduceLT, Int.reduceLE, Int.reduceEq, Int.reduceNe, Option.map_some, Option.map_none, Option.bind_some, Option.bind_none, decide_not, ne_eq, not_true_eq_false, not_false_eq_true, reduceCtorEq, and_self, nc0, nc1, nc2, nc3, nc4, nc5, nc6, f_is_whole, m_is_whole, h, h2]
theorem whole_hi (a h : Int) : f_is_whole [.int a, .non, .int h] [] = .ok (.bl (decide (a ≤ h))) [] := by
  by_cases q : a ≤ h
  · simp only [runF, entry, initE, fin, finR, frz_p, frz_ref, frzW_nil, frzW_p, frzW_ref, frzW_map, contN, cont, pds, pds_map, mb, eb, sSeq, sSet, sRet, sRetN, sIf, sNext, sExpr, sBreak, sCont, mVar, mC, mCons, mNil, mTup, fTup, mLst, fLst, mBin, mUn, mCB, mTest, mTru, truF, mAndT, mOrT, mNotT, mAnd, mOr, mNot, mIf, mChain, map_p_nil, map_p_cons, deepV_p, okq_non, okq_bl, okq_int, okq_str, okq_tup, okq_lst, okqs_nil, okqs_cons, fEq_ii, fNe_ii, fEq_ss, fNe_ss, at0, at1, at2, at3, at4, seqOf_tup, seqOf_lst, seqOf_ref, listOf_lst, listOf_ref, fIx_tup, fIx_lst, fIx_ref, ix10, ix20, ix21, ix30, ix31, ix32, ix40, ix41, ix42, ix43, ix50, ix51, ix52, ix53, ix54, ix60, ix61, ix62, ix63, ix64, ix65, ix70, ix71, ix72, ix73, ix74, ix75, ix76, ix80, ix81, ix82, ix83, ix84, ix85, ix86, ix87, fI, fSub, fDiv, fMod, fPow, fNeg, fLt, fLe, fGt, fGe, fOrd, fGcd, fAbs, fInt, fLen, fStr, fIs, fIsNot, isNon, fAdd, fMul, fIsi, tyOfD, tyNm, fAppend, mBM, mBM0, isL, DL.listOf, sSetItem, fSetItem, sPar, sAsg, tgName, tgTup, tgNil, tgCons, kit_ii, kit_bi, kit_ni, kit_si, kit_ti, kit_li, kit_ib, kit_bb, kit_nb, kit_sb, kit_tb, kit_lb, kit_it, kit_bt, kit_nt, kit_st, kit_tt, kit_lt, kit_is, kit_bs, kit_ns, kit_ss, kit_ts, kit_ls, kit_il, kit_bl, kit_nl, kit_sl, kit_tl, kit_ll, mCall, mCallD, callF, pass_nil, pass_p, pass_f, pass_m, callR, nodupB, setCells, yes2, line, range_1, range_2, List.length_cons, List.length_nil, List.getElem?_cons_zero, List.getElem?_cons_succ, List.map_cons, List.map_nil, List.replicate_zero, List.replicate_succ, List.range_zero, List.set_cons_zero, List.set_cons_succ, List.append_nil, List.nil_append, List.cons_append, List.contains_nil, if_true, if_false, ite_true, ite_false, reduceIte, Bool.and_true, Bool.true_and, Bool.not_true, Bool.not_false, Bool.false_and, Bool.and_false, decide_true, decide_false, Nat.reduceLeDiff, Nat.reduceSub, Nat.reduceAdd, Nat.reduceLT, Int.reduceLT, Int.reduceLE, Int.reduceEq, Int.reduceNe, Option.map_some, Option.map_none, Option.bind_some, Option.bind_none, decide_not, ne_eq, not_true_eq_false, not_false_eq_true, reduceCtorEq, and_self, nc0, nc1, nc2, nc3, nc4, nc5, nc6, f_is_whole, m_is_whole, q]
  · simp only [runF, entry, initE, fin, finR, frz_p, frz_ref, frzW_nil, frzW_p, frzW_ref, frzW_map, contN, cont, pds, pds_map, mb, eb, sSeq, sSet, sRet, sRetN, sIf, sNext, sExpr, sBreak, sCont, mVar, mC, mCons, mNil, mTup, fTup, mLst, fLst, mBin, mUn, mCB, mTest, mTru, truF, mAndT, mOrT, mNotT, mAnd, mOr, mNot, mIf, mChain, map_p_nil, map_p_cons, deepV_p, okq_non, okq_bl, okq_int, okq_str, okq_tup, okq_lst, okqs_nil, okqs_cons, fEq_ii, fNe_ii, fEq_ss, fNe_ss, at0, at1, at2, at3, at4, seqOf_tup, seqOf_lst, seqOf_ref, listOf_lst, listOf_ref, fIx_tup, fIx_lst, fIx_ref, ix10, ix20, ix21, ix30, ix31, ix32, ix40, ix41, ix42, ix43, ix50, ix51, ix52, ix53, ix54, ix60, ix61, ix62, ix63, ix64, ix65, ix70, ix71, ix72, ix73, ix74, ix75, ix76, ix80, ix81, ix82, ix83, ix84, ix85, ix86, ix87, fI, fSub, fDiv, fMod, fPow, fNeg, fLt, fLe, fGt, fGe, fOrd, fGcd, fAbs, fInt, fLen, fStr, fIs, fIsNot, isNon, fAdd, fMul, fIsi, tyOfD, tyNm, fAppend, mBM, mBM0, isL, DL.listOf, sSetItem, fSetItem, sPar, sAsg, tgName, tgTup, tgNil, tgCons, kit_ii, kit_bi, kit_ni, kit_si, kit_ti, kit_li, kit_ib, kit_bb, kit_nb, kit_sb, kit_tb, kit_lb, kit_it, kit_bt, kit_nt, kit_st, kit_tt, kit_lt, kit_is, kit_bs, kit_ns, kit_ss, kit_ts, kit_ls, kit_il, kit_bl, kit_nl, kit_sl, kit_tl, kit_ll, mCall, mCallD, callF, pass_nil, pass_p, pass_f, pass_m, callR, nodupB, setCells, yes2, line, range_1, range_2, List.length_cons, List.length_nil, List.getElem?_cons_zero, List.getElem?_cons_succ, List.map_cons, List.map_nil, List.replicate_zero, List.replicate_succ, List.range_zero, List.set_cons_zero, List.set_cons_succ, List.append_nil, List.nil_append, List.cons_append, List.contains_nil, if_true, if_false, ite_true, ite_false, reduceIte, Bool.and_true, Bool.true_and, Bool.not_true, Bool.not_false, Bool.false_and, Bool.and_false, decide_true, decide_false, Nat.reduceLeDiff, Nat.reduceSub, Nat.reduceAdd, Nat.reduceLT, Int.reduceLT, Int.reduceLE, Int.reduceEq, Int.reduceNe, Option.map_some, Option.map_none, Option.bind_some, Option.bind_none, decide_not, ne_eq, not_true_eq_false, not_false_eq_true, reduceCtorEq, and_self, nc0, nc1, nc2, nc3, nc4, nc5, nc6, f_is_whole, m_is_whole, q]
theorem whole_both (a l h : Int) : f_is_whole [.int a, .int l, .int h] [] = .ok (.bl (decide (l ≤ a) && decide (a ≤ h))) [] := by
  by_cases h1 : a < l
  · have h2 : ¬ l ≤ a := by omega
    simp only [runF, entry, initE, fin, finR, frz_p, frz_ref, frzW_nil, frzW_p, frzW_ref, frzW_map, contN, cont, pds, pds_map, mb, eb, sSeq, sSet, sRet, sRetN, sIf, sNext, sExpr, sBreak, sCont, mVar, mC, mCons, mNil, mTup, fTup, mLst, fLst, mBin, mUn, mCB, mTest, mTru, truF, mAndT, mOrT, mNotT, mAnd, mOr, mNot, mIf, mChain, map_p_nil, map_p_cons, deepV_p, okq_non, okq_bl, okq_int, okq_str, okq_tup, okq_lst, okqs_nil, okqs_cons, fEq_ii, fNe_ii, fEq_ss, fNe_ss, at0, at1, at2, at3, at4, seqOf_tup, seqOf_lst, seqOf_ref, listOf_lst, listOf_ref, fIx_tup, fIx_lst, fIx_ref, ix10, ix20, ix21, ix30, ix31, ix32, ix40, ix41, ix42, ix43, ix50, ix51, ix52, ix53, ix54, ix60, ix61, ix62, ix63, ix64, ix65, ix70, ix71, ix72, ix73, ix74, ix75, ix76, ix80, ix81, ix82, ix83, ix84, ix85, ix86, ix87, fI, fSub, fDiv, fMod, fPow, fNeg, fLt, fLe, fGt, fGe, fOrd, fGcd, fAbs, fInt, fLen, fStr, fIs, fIsNot, isNon, fAdd, fMul, fIsi, tyOfD, tyNm, fAppend, mBM, mBM0, isL, DL.listOf, sSetItem, fSetItem, sPar, sAsg, tgName, tgTup, tgNil, tgCons, kit_ii, kit_bi, kit_ni, kit_si, kit_ti, kit_li, kit_ib, kit_bb, kit_nb, kit_sb, kit_tb, kit_lb, kit_it, kit_bt, kit_nt, kit_st, kit_tt, kit_lt, kit_is, kit_bs, kit_ns, kit_ss, kit_ts, kit_ls, kit_il, kit_bl, kit_nl, kit_sl, kit_tl, kit_ll, mCall, mCallD, callF, pass_nil, pass_p, pass_f, pass_m, callR, nodupB, setCells, yes2, line, range_1, range_2, List.length_cons, List.length_nil, List.getElem?_cons_zero, List.getElem?_cons_succ, List.map_cons, List.map_nil, List.replicate_zero, List.replicate_succ, List.range_zero, List.set_cons_zero, List.set_cons_succ, List.append_nil, List.nil_append, List.cons_append, List.contains_nil, if_true, if_false, ite_true, ite_false, reduceIte, Bool.and_true, Bool.true_and, Bool.not_true, Bool.not_false, Bool.false_and, Bool.and_false, decide_true, decide_false, Nat.reduceLeDiff, Nat.reduceSub, Nat.reduceAdd, Nat.reduceLT, Int.reduceLT, Int.reduceLE, Int.reduceEq, Int.reduceNe, Option.map_some, Option.map_none, Option.bind_some, Option.bind_none, decide_not, ne_eq, not_true_eq_false, not_false_eq_true, reduceCtorEq, and_self, nc0, nc1, nc2, nc3, nc4, nc5, nc6, f_is_whole, m_is_whole, h1, h2]
  · have h2 : l ≤ a := by omega
    by_cases q : a ≤ h
    · simp only [runF, entry, initE, fin, finR, frz_p, frz_ref, frzW_nil, frzW_p, frzW_ref, frzW_map, contN, cont, pds, pds_map, mb, eb, sSeq, sSet, sRet, sRetN, sIf, sNext, sExpr, sBreak, sCont, mVar, mC, mCons, mNil, mTup, fTup, mLst, fLst, mBin, mUn, mCB, mTest, mTru, truF, mAndT, mOrT, mNotT, mAnd, mOr, mNot, mIf, mChain, map_p_nil, map_p_cons, deepV_p, okq_non, okq_bl, okq_int, okq_str, okq_tup, okq_lst, okqs_nil, okqs_cons, fEq_ii, fNe_ii, fEq_ss, fNe_ss, at0, at1, at2, at3, at4, seqOf_tup, seqOf_lst, seqOf_ref, listOf_lst, listOf_ref, fIx_tup, fIx_lst, fIx_ref, ix10, ix20, ix21, ix30, ix31, ix32, ix40, ix41, ix42, ix43, ix50, ix51, ix52, ix53, ix54, ix60, ix61, ix62, ix63, ix64, ix65, ix70, ix71, ix72, ix73, ix74, ix75, ix76, ix80, ix81, ix82, ix83, ix84, ix85, ix86, ix87, fI, fSub, fDiv, fMod, fPow, fNeg, fLt, fLe, fGt, fGe, fOrd, fGcd, fAbs, fInt, fLen, fStr, fIs, fIsNot, isNon, fAdd, fMul, fIsi, tyOfD, tyNm, fAppend, mBM, mBM0, isL, DL.listOf, sSetItem, fSetItem, sPar, sAsg, tgName, tgTup, tgNil, tgCons, kit_ii, kit_bi, kit_ni, kit_si, kit_ti, kit_li, kit_ib, kit_bb, kit_nb, kit_sb, kit_tb, kit_lb, kit_it, kit_bt, kit_nt, kit_st, kit_tt, kit_lt, kit_is, kit_bs, kit_ns, kit_ss, kit_ts, kit_ls, kit_il, kit_bl, kit_nl, kit_sl, kit_tl, kit_ll, mCall, mCallD, callF, pass_nil, pass_p, pass_f, pass_m, callR, nodupB, setCells, yes2, line, range_1, range_2, List.length_cons, List.length_nil, List.getElem?_cons_zero, List.getElem?_cons_succ, List.map_cons, List.map_nil, List.replicate_zero, List.replicate_succ, List.range_zero, List.set_cons_zero, List.set_cons_succ, List.append_nil, List.nil_append, List.cons_append, List.contains_nil, if_true, if_false, ite_true, ite_false, reduceIte, Bool.and_true, Bool.true_and, Bool.not_true, Bool.not_false, Bool.false_and, Bool.and_false, decide_true, decide_false, Nat.reduceLeDiff, Nat.reduceSub, Nat.reduceAdd, Nat.reduceLT, Int.reduceLT, Int.reduceLE, Int.reduceEq, Int.reduceNe, Option.map_some, Option.map_none, Option.bind_some, Option.bind_none, decide_not, ne_eq, not_true_eq_false, not_false_eq_true, reduceCtorEq, and_self, nc0, nc1, nc2, nc3, nc4, nc5, nc6, f_is_whole, m_is_whole, h1, h2, q]
    · simp only [runF, entry, initE, fin, finR, frz_p, frz_ref, frzW_nil, frzW_p, frzW_ref, frzW_map, contN, cont, pds, pds_map, mb, eb, sSeq, sSet, sRet, sRetN, sIf, sNext, sExpr, sBreak, sCont, mVar, mC, mCons, mNil, mTup, fTup, mLst, fLst, mBin, mUn, mCB, mTest, mTru, truF, mAndT, mOrT, mNotT, mAnd, mOr, mNot, mIf, mChain, map_p_nil, map_p_cons, deepV_p, okq_non, okq_bl, okq_int, okq_str, okq_tup, okq_lst, okqs_nil, okqs_cons, fEq_ii, fNe_ii, fEq_ss, fNe_ss, at0, at1, at2, at3, at4, seqOf_tup, seqOf_lst, seqOf_ref, listOf_lst, listOf_ref, fIx_tup, fIx_lst, fIx_ref, ix10, ix20, ix21, ix30, ix31, ix32, ix40, ix41, ix42, ix43, ix50, ix51, ix52, ix53, ix54, ix60, ix61, ix62, ix63, ix64, ix65, ix70, ix71, ix72, ix73, ix74, ix75, ix76, ix80, ix81, ix82, ix83, ix84, ix85, ix86, ix87, fI, fSub, fDiv, fMod, fPow, fNeg, fLt, fLe, fGt, fGe, fOrd, fGcd, fAbs, fInt, fLen, fStr, fIs, fIsNot, isNon, fAdd, fMul, fIsi, tyOfD, tyNm, fAppend, mBM, mBM0, isL, DL.listOf, sSetItem, fSetItem, sPar, sAsg, tgName, tgTup, tgNil, tgCons, kit_ii, kit_bi, kit_ni, kit_si, kit_ti, kit_li, kit_ib, kit_bb, kit_nb, kit_sb, kit_tb, kit_lb, kit_it, kit_bt, kit_nt, kit_st, kit_tt, kit_lt, kit_is, kit_bs, kit_ns, kit_ss, kit_ts, kit_ls, kit_il, kit_bl, kit_nl, kit_sl, kit_tl, kit_ll, mCall, mCallD, callF, pass_nil, pass_p, pass_f, pass_m, callR, nodupB, setCells, yes2, line, range_1, range_2, List.length_cons, List.length_nil, List.getElem?_cons_zero, List.getElem?_cons_succ, List.map_cons, List.map_nil, List.replicate_zero, List.replicate_succ, List.range_zero, List.set_cons_zero, List.set_cons_succ, List.append_nil, List.nil_append, List.cons_append, List.contains_nil, if_true, if_false, ite_true, ite_false, reduceIte, Bool.and_true, Bool.true_and, Bool.not_true, Bool.not_false, Bool.false_and, Bool.and_false, decide_true, decide_false, Nat.reduceLeDiff, Nat.reduceSub, Nat.reduceAdd, Nat.reduceLT, Int.reduceLT, Int.reduceLE, Int.reduceEq, Int.reduceNe, Option.map_some, Option.map_none, Option.bind_some, Option.bind_none, decide_not, ne_eq, not_true_eq_false, not_false_eq_true, reduceCtorEq, and_self, nc0, nc1, nc2, nc3, nc4, nc5, nc6, f_is_whole, m_is_whole, h1, h2, q]
/-- what is no whole number -/
def odd : PD → Bool
  | .int _ => false
  | .obj _ _ => false
  | _ => true
theorem whole_odd (x : PD) (y z : PD) (h : odd x = true) : f_is_whole [x, y, z] [] = .ok (.bl false) [] := by
  cases x with
  | int _ => cases h
  | obj _ _ => cases h
  | _ => simp only [runF, entry, initE, fin, finR, frz_p, frz_ref, frzW_nil, frzW_p, frzW_ref, frzW_map, contN, cont, pds, pds_map, mb, eb, sSeq, sSet, sRet, sRetN, sIf, sNext, sExpr, sBreak, sCont, mVar, mC, mCons, mNil, mTup, fTup, mLst, fLst, mBin, mUn, mCB, mTest, mTru, truF, mAndT, mOrT, mNotT, mAnd, mOr, mNot, mIf, mChain, map_p_nil, map_p_cons, deepV_p, okq_non, okq_bl, okq_int, okq_str, okq_tup, okq_lst, okqs_nil, okqs_cons, fEq_ii, fNe_ii, fEq_ss, fNe_ss, at0, at1, at2, at3, at4, seqOf_tup, seqOf_lst, seqOf_ref, listOf_lst, listOf_ref, fIx_tup, fIx_lst, fIx_ref, ix10, ix20, ix21, ix30, ix31, ix32, ix40, ix41, ix42, ix43, ix50, ix51, ix52, ix53, ix54, ix60, ix61, ix62, ix63, ix64, ix65, ix70, ix71, ix72, ix73, ix74, ix75, ix76, ix80, ix81, ix82, ix83, ix84, ix85, ix86, ix87, fI, fSub, fDiv, fMod, fPow, fNeg, fLt, fLe, fGt, fGe, fOrd, fGcd, fAbs, fInt, fLen, fStr, fIs, fIsNot, isNon, fAdd, fMul, fIsi, tyOfD, tyNm, fAppend, mBM, mBM0, isL, DL.listOf, sSetItem, fSetItem, sPar, sAsg, tgName, tgTup, tgNil, tgCons, kit_ii, kit_bi, kit_ni, kit_si, kit_ti, kit_li, kit_ib, kit_bb, kit_nb, kit_sb, kit_tb, kit_lb, kit_it, kit_bt, kit_nt, kit_st, kit_tt, kit_lt, kit_is, kit_bs, kit_ns, kit_ss, kit_ts, kit_ls, kit_il, kit_bl, kit_nl, kit_sl, kit_tl, kit_ll, mCall, mCallD, callF, pass_nil, pass_p, pass_f, pass_m, callR, nodupB, setCells, yes2, line, range_1, range_2, List.length_cons, List.length_nil, List.getElem?_cons_zero, List.getElem?_cons_succ, List.map_cons, List.map_nil, List.replicate_zero, List.replicate_succ, List.range_zero, List.set_cons_zero, List.set_cons_succ, List.append_nil, List.nil_append, List.cons_append, List.contains_nil, if_true, if_false, ite_true, ite_false, reduceIte, Bool.and_true, Bool.true_and, Bool.not_true, Bool.not_false, Bool.false_and, Bool.and_false, decide_true, decide_false, Nat.reduceLeDiff, Nat.reduceSub, Nat.reduceAdd, Nat.reduceLT, Int.reduceLT, Int.reduceLE, Int.reduceEq, Int.reduceNe, Option.map_some, Option.map_none, Option.bind_some, Option.bind_none, decide_not, ne_eq, not_true_eq_false, not_false_eq_true, reduceCtorEq, and_self, nc0, nc1, nc2, nc3, nc4, nc5, nc6, f_is_whole, m_is_whole]
theorem make_ok {a b : Int} (h0 : b ≠ 0) (hb : Sm 4000 b) : f_make_ratio [.int a, .int b] [] = .ok (rat (low a b)) [] := by
  simp only [runF, entry, initE, fin, finR, frz_p, frz_ref, frzW_nil, frzW_p, frzW_ref, frzW_map, contN, cont, pds, pds_map, mb, eb, sSeq, sSet, sRet, sRetN, sIf, sNext, sExpr, sBreak, sCont, mVar, mC, mCons, mNil, mTup, fTup, mLst, fLst, mBin, mUn, mCB, mTest, mTru, truF, mAndT, mOrT, mNotT, mAnd, mOr, mNot, mIf, mChain, map_p_nil, map_p_cons, deepV_p, okq_non, okq_bl, okq_int, okq_str, okq_tup, okq_lst, okqs_nil, okqs_cons, fEq_ii, fNe_ii, fEq_ss, fNe_ss, at0, at1, at2, at3, at4, seqOf_tup, seqOf_lst, seqOf_ref, listOf_lst, listOf_ref, fIx_tup, fIx_lst, fIx_ref, ix10, ix20, ix21, ix30, ix31, ix32, ix40, ix41, ix42, ix43, ix50, ix51, ix52, ix53, ix54, ix60, ix61, ix62, ix63, ix64, ix65, ix70, ix71, ix72, ix73, ix74, ix75, ix76, ix80, ix81, ix82, ix83, ix84, ix85, ix86, ix87, fI, fSub, fDiv, fMod, fPow, fNeg, fLt, fLe, fGt, fGe, fOrd, fGcd, fAbs, fInt, fLen, fStr, fIs, fIsNot, isNon, fAdd, fMul, fIsi, tyOfD, tyNm, fAppend, mBM, mBM0, isL, DL.listOf, sSetItem, fSetItem, sPar, sAsg, tgName, tgTup, tgNil, tgCons, kit_ii, kit_bi, kit_ni, kit_si, kit_ti, kit_li, kit_ib, kit_bb, kit_nb, kit_sb, kit_tb, kit_lb, kit_it, kit_bt, kit_nt, kit_st, kit_tt, kit_lt, kit_is, kit_bs, kit_ns, kit_ss, kit_ts, kit_ls, kit_il, kit_bl, kit_nl, kit_sl, kit_tl, kit_ll, mCall, mCallD, callF, pass_nil, pass_p, pass_f, pass_m, callR, nodupB, setCells, yes2, line, range_1, range_2, List.length_cons, List.length_nil, List.getElem?_cons_zero, List.getElem?_cons_succ, List.map_cons, List.map_nil, List.replicate_zero, List.replicate_succ, List.range_zero, List.set_cons_zero, List.set_cons_succ, List.append_nil, List.nil_append, List.cons_append, List.contains_nil, if_true, if_false, ite_true, ite_false, reduceIte, Bool.and_true, Bool.true_and, Bool.not_true, Bool.not_false, Bool.false_and, Bool.and_false, decide_true, decide_false, Nat.reduceLeDiff, Nat.reduceSub, Nat.reduceAdd, Nat.reduceLT, Int.reduceLT, Int.reduceLE, Int.reduceEq, Int.reduceNe, Option.map_some, Option.map_none, Option.bind_some, Option.bind_none, decide_not, ne_eq, not_true_eq_false, not_false_eq_true, reduceCtorEq, and_self, nc0, nc1, nc2, nc3, nc4, nc5, nc6, f_make_ratio, m_make_ratio, whole_int, h0, lowest_eq h0 hb]
theorem make_zero (a : Int) : f_make_ratio [.int a, .int 0] [] = .exc 1 [("what", .str "bottom")] [] := by
  simp only [runF, entry, initE, fin, finR, frz_p, frz_ref, frzW_nil, frzW_p, frzW_ref, frzW_map, contN, cont, pds, pds_map, mb, eb, sSeq, sSet, sRet, sRetN, sIf, sNext, sExpr, sBreak, sCont, mVar, mC, mCons, mNil, mTup, fTup, mLst, fLst, mBin, mUn, mCB, mTest, mTru, truF, mAndT, mOrT, mNotT, mAnd, mOr, mNot, mIf, mChain, map_p_nil, map_p_cons, deepV_p, okq_non, okq_bl, okq_int, okq_str, okq_tup, okq_lst, okqs_nil, okqs_cons, fEq_ii, fNe_ii, fEq_ss, fNe_ss, at0, at1, at2, at3, at4, seqOf_tup, seqOf_lst, seqOf_ref, listOf_lst, listOf_ref, fIx_tup, fIx_lst, fIx_ref, ix10, ix20, ix21, ix30, ix31, ix32, ix40, ix41, ix42, ix43, ix50, ix51, ix52, ix53, ix54, ix60, ix61, ix62, ix63, ix64, ix65, ix70, ix71, ix72, ix73, ix74, ix75, ix76, ix80, ix81, ix82, ix83, ix84, ix85, ix86, ix87, fI, fSub, fDiv, fMod, fPow, fNeg, fLt, fLe, fGt, fGe, fOrd, fGcd, fAbs, fInt, fLen, fStr, fIs, fIsNot, isNon, fAdd, fMul, fIsi, tyOfD, tyNm, fAppend, mBM, mBM0, isL, DL.listOf, sSetItem, fSetItem, sPar, sAsg, tgName, tgTup, tgNil, tgCons, kit_ii, kit_bi, kit_ni, kit_si, kit_ti, kit_li, kit_ib, kit_bb, kit_nb, kit_sb, kit_tb, kit_lb, kit_it, kit_bt, kit_nt, kit_st, kit_tt, kit_lt, kit_is, kit_bs, kit_ns, kit_ss, kit_ts, kit_ls, kit_il, kit_bl, kit_nl, kit_sl, kit_tl, kit_ll, mCall, mCallD, callF, pass_nil, pass_p, pass_f, pass_m, callR, nodupB, setCells, yes2, line, range_1, range_2, List.length_cons, List.length_nil, List.getElem?_cons_zero, List.getElem?_cons_succ, List.map_cons, List.map_nil, List.replicate_zero, List.replicate_succ, List.range_zero, List.set_cons_zero, List.set_cons_succ, List.append_nil, List.nil_append, List.cons_append, List.contains_nil, if_true, if_false, ite_true, ite_false, reduceIte, Bool.and_true, Bool.true_and, Bool.not_true, Bool.not_false, Bool.false_and, Bool.and_false, decide_true, decide_false, Nat.reduceLeDiff, Nat.reduceSub, Nat.reduceAdd, Nat.reduceLT, Int.reduceLT, Int.reduceLE, Int.reduceEq, Int.reduceNe, Option.map_some, Option.map_none, Option.bind_some, Option.bind_none, decide_not, ne_eq, not_true_eq_false, not_false_eq_true, reduceCtorEq, and_self, nc0, nc1, nc2, nc3, nc4, nc5, nc6, f_make_ratio, m_make_ratio, whole_int, sRaise]
  rfl
theorem make_top (x y : PD) (h : odd x = true) : f_make_ratio [x, y] [] = .exc 1 [("what", .str "top")] [] := by
  simp only [runF, entry, initE, fin, finR, frz_p, frz_ref, frzW_nil, frzW_p, frzW_ref, frzW_map, contN, cont, pds, pds_map, mb, eb, sSeq, sSet, sRet, sRetN, sIf, sNext, sExpr, sBreak, sCont, mVar, mC, mCons, mNil, mTup, fTup, mLst, fLst, mBin, mUn, mCB, mTest, mTru, truF, mAndT, mOrT, mNotT, mAnd, mOr, mNot, mIf, mChain, map_p_nil, map_p_cons, deepV_p, okq_non, okq_bl, okq_int, okq_str, okq_tup, okq_lst, okqs_nil, okqs_cons, fEq_ii, fNe_ii, fEq_ss, fNe_ss, at0, at1, at2, at3, at4, seqOf_tup, seqOf_lst, seqOf_ref, listOf_lst, listOf_ref, fIx_tup, fIx_lst, fIx_ref, ix10, ix20, ix21, ix30, ix31, ix32, ix40, ix41, ix42, ix43, ix50, ix51, ix52, ix53, ix54, ix60, ix61, ix62, ix63, ix64, ix65, ix70, ix71, ix72, ix73, ix74, ix75, ix76, ix80, ix81, ix82, ix83, ix84, ix85, ix86, ix87, fI, fSub, fDiv, fMod, fPow, fNeg, fLt, fLe, fGt, fGe, fOrd, fGcd, fAbs, fInt, fLen, fStr, fIs, fIsNot, isNon, fAdd, fMul, fIsi, tyOfD, tyNm, fAppend, mBM, mBM0, isL, DL.listOf, sSetItem, fSetItem, sPar, sAsg, tgName, tgTup, tgNil, tgCons, kit_ii, kit_bi, kit_ni, kit_si, kit_ti, kit_li, kit_ib, kit_bb, kit_nb, kit_sb, kit_tb, kit_lb, kit_it, kit_bt, kit_nt, kit_st, kit_tt, kit_lt, kit_is, kit_bs, kit_ns, kit_ss, kit_ts, kit_ls, kit_il, kit_bl, kit_nl, kit_sl, kit_tl, kit_ll, mCall, mCallD, callF, pass_nil, pass_p, pass_f, pass_m, callR, nodupB, setCells, yes2, line, range_1, range_2, List.length_cons, List.length_nil, List.getElem?_cons_zero, List.getElem?_cons_succ, List.map_cons, List.map_nil, List.replicate_zero, List.replicate_succ, List.range_zero, List.set_cons_zero, List.set_cons_succ, List.append_nil, List.nil_append, List.cons_append, List.contains_nil, if_true, if_false, ite_true, ite_false, reduceIte, Bool.and_true, Bool.true_and, Bool.not_true, Bool.not_false, Bool.false_and, Bool.and_false, decide_true, decide_false, Nat.reduceLeDiff, Nat.reduceSub, Nat.reduceAdd, Nat.reduceLT, Int.reduceLT, Int.reduceLE, Int.reduceEq, Int.reduceNe, Option.map_some, Option.map_none, Option.bind_some, Option.bind_none, decide_not, ne_eq, not_true_eq_false, not_false_eq_true, reduceCtorEq, and_self, nc0, nc1, nc2, nc3, nc4, nc5, nc6, f_make_ratio, m_make_ratio, whole_odd x _ _ h, sRaise]
  rfl
theorem make_bottom (a : Int) (y : PD) (h : odd y = true) : f_make_ratio [.int a, y] [] = .exc 1 [("what", .str "bottom")] [] := by
  simp only [runF, entry, initE, fin, finR, frz_p, frz_ref, frzW_nil, frzW_p, frzW_ref, frzW_map, contN, cont, pds, pds_map, mb, eb, sSeq, sSet, sRet, sRetN, sIf, sNext, sExpr, sBreak, sCont, mVar, mC, mCons, mNil, mTup, fTup, mLst, fLst, mBin, mUn, mCB, mTest, mTru, truF, mAndT, mOrT, mNotT, mAnd, mOr, mNot, mIf, mChain, map_p_nil, map_p_cons, deepV_p, okq_non, okq_bl, okq_int, okq_str, okq_tup, okq_lst, okqs_nil, okqs_cons, fEq_ii, fNe_ii, fEq_ss, fNe_ss, at0, at1, at2, at3, at4, seqOf_tup, seqOf_lst, seqOf_ref, listOf_lst, listOf_ref, fIx_tup, fIx_lst, fIx_ref, ix10, ix20, ix21, ix30, ix31, ix32, ix40, ix41, ix42, ix43, ix50, ix51, ix52, ix53, ix54, ix60, ix61, ix62, ix63, ix64, ix65, ix70, ix71, ix72, ix73, ix74, ix75, ix76, ix80, ix81, ix82, ix83, ix84, ix85, ix86, ix87, fI, fSub, fDiv, fMod, fPow, fNeg, fLt, fLe, fGt, fGe, fOrd, fGcd, fAbs, fInt, fLen, fStr, fIs, fIsNot, isNon, fAdd, fMul, fIsi, tyOfD, tyNm, fAppend, mBM, mBM0, isL, DL.listOf, sSetItem, fSetItem, sPar, sAsg, tgName, tgTup, tgNil, tgCons, kit_ii, kit_bi, kit_ni, kit_si, kit_ti, kit_li, kit_ib, kit_bb, kit_nb, kit_sb, kit_tb, kit_lb, kit_it, kit_bt, kit_nt, kit_st, kit_tt, kit_lt, kit_is, kit_bs, kit_ns, kit_ss, kit_ts, kit_ls, kit_il, kit_bl, kit_nl, kit_sl, kit_tl, kit_ll, mCall, mCallD, callF, pass_nil, pass_p, pass_f, pass_m, callR, nodupB, setCells, yes2, line, range_1, range_2, List.length_cons, List.length_nil, List.getElem?_cons_zero, List.getElem?_cons_succ, List.map_cons, List.map_nil, List.replicate_zero, List.replicate_succ, List.range_zero, List.set_cons_zero, List.set_cons_succ, List.append_nil, List.nil_append, List.cons_append, List.contains_nil, if_true, if_false, ite_true, ite_false, reduceIte, Bool.and_true, Bool.true_and, Bool.not_true, Bool.not_false, Bool.false_and, Bool.and_false, decide_true, decide_false, Nat.reduceLeDiff, Nat.reduceSub, Nat.reduceAdd, Nat.reduceLT, Int.reduceLT, Int.reduceLE, Int.reduceEq, Int.reduceNe, Option.map_some, Option.map_none, Option.bind_some, Option.bind_none, decide_not, ne_eq, not_true_eq_false, not_false_eq_true, reduceCtorEq, and_self, nc0, nc1, nc2, nc3, nc4, nc5, nc6, f_make_ratio, m_make_ratio, whole_int, whole_odd y _ _ h, sRaise]
  rfl
theorem lmade_ok {a b : Int} (h0 : b ≠ 0) (hb : Sm 4000 b) : f__law_made [.int a, .int b] [] = .ok (.tup [.str "made", rat (low a b)]) [] := by
  simp only [runF, entry, initE, fin, finR, frz_p, frz_ref, frzW_nil, frzW_p, frzW_ref, frzW_map, contN, cont, pds, pds_map, mb, eb, sSeq, sSet, sRet, sRetN, sIf, sNext, sExpr, sBreak, sCont, mVar, mC, mCons, mNil, mTup, fTup, mLst, fLst, mBin, mUn, mCB, mTest, mTru, truF, mAndT, mOrT, mNotT, mAnd, mOr, mNot, mIf, mChain, map_p_nil, map_p_cons, deepV_p, okq_non, okq_bl, okq_int, okq_str, okq_tup, okq_lst, okqs_nil, okqs_cons, fEq_ii, fNe_ii, fEq_ss, fNe_ss, at0, at1, at2, at3, at4, seqOf_tup, seqOf_lst, seqOf_ref, listOf_lst, listOf_ref, fIx_tup, fIx_lst, fIx_ref, ix10, ix20, ix21, ix30, ix31, ix32, ix40, ix41, ix42, ix43, ix50, ix51, ix52, ix53, ix54, ix60, ix61, ix62, ix63, ix64, ix65, ix70, ix71, ix72, ix73, ix74, ix75, ix76, ix80, ix81, ix82, ix83, ix84, ix85, ix86, ix87, fI, fSub, fDiv, fMod, fPow, fNeg, fLt, fLe, fGt, fGe, fOrd, fGcd, fAbs, fInt, fLen, fStr, fIs, fIsNot, isNon, fAdd, fMul, fIsi, tyOfD, tyNm, fAppend, mBM, mBM0, isL, DL.listOf, sSetItem, fSetItem, sPar, sAsg, tgName, tgTup, tgNil, tgCons, kit_ii, kit_bi, kit_ni, kit_si, kit_ti, kit_li, kit_ib, kit_bb, kit_nb, kit_sb, kit_tb, kit_lb, kit_it, kit_bt, kit_nt, kit_st, kit_tt, kit_lt, kit_is, kit_bs, kit_ns, kit_ss, kit_ts, kit_ls, kit_il, kit_bl, kit_nl, kit_sl, kit_tl, kit_ll, mCall, mCallD, callF, pass_nil, pass_p, pass_f, pass_m, callR, nodupB, setCells, yes2, line, range_1, range_2, List.length_cons, List.length_nil, List.getElem?_cons_zero, List.getElem?_cons_succ, List.map_cons, List.map_nil, List.replicate_zero, List.replicate_succ, List.range_zero, List.set_cons_zero, List.set_cons_succ, List.append_nil, List.nil_append, List.cons_append, List.contains_nil, if_true, if_false, ite_true, ite_false, reduceIte, Bool.and_true, Bool.true_and, Bool.not_true, Bool.not_false, Bool.false_and, Bool.and_false, decide_true, decide_false, Nat.reduceLeDiff, Nat.reduceSub, Nat.reduceAdd, Nat.reduceLT, Int.reduceLT, Int.reduceLE, Int.reduceEq, Int.reduceNe, Option.map_some, Option.map_none, Option.bind_some, Option.bind_none, decide_not, ne_eq, not_true_eq_false, not_false_eq_true, reduceCtorEq, and_self, nc0, nc1, nc2, nc3, nc4, nc5, nc6, f__law_made, m__law_made, sTryAs, make_ok h0 hb]
theorem lmade_exc {x y : PD} {w : Str} (h : f_make_ratio [x, y] [] = .exc 1 [("what", .str w)] []) : f__law_made [x, y] [] = .ok (.tup [.str "refused", .str w]) [] := by
  have hl : List.lookup ("what" : Str) [(("what" : Str), PD.str w)] = some (.str w) := by simp [List.lookup]
  simp only [runF, entry, initE, fin, finR, frz_p, frz_ref, frzW_nil, frzW_p, frzW_ref, frzW_map, contN, cont, pds, pds_map, mb, eb, sSeq, sSet, sRet, sRetN, sIf, sNext, sExpr, sBreak, sCont, mVar, mC, mCons, mNil, mTup, fTup, mLst, fLst, mBin, mUn, mCB, mTest, mTru, truF, mAndT, mOrT, mNotT, mAnd, mOr, mNot, mIf, mChain, map_p_nil, map_p_cons, deepV_p, okq_non, okq_bl, okq_int, okq_str, okq_tup, okq_lst, okqs_nil, okqs_cons, fEq_ii, fNe_ii, fEq_ss, fNe_ss, at0, at1, at2, at3, at4, seqOf_tup, seqOf_lst, seqOf_ref, listOf_lst, listOf_ref, fIx_tup, fIx_lst, fIx_ref, ix10, ix20, ix21, ix30, ix31, ix32, ix40, ix41, ix42, ix43, ix50, ix51, ix52, ix53, ix54, ix60, ix61, ix62, ix63, ix64, ix65, ix70, ix71, ix72, ix73, ix74, ix75, ix76, ix80, ix81, ix82, ix83, ix84, ix85, ix86, ix87, fI, fSub, fDiv, fMod, fPow, fNeg, fLt, fLe, fGt, fGe, fOrd, fGcd, fAbs, fInt, fLen, fStr, fIs, fIsNot, isNon, fAdd, fMul, fIsi, tyOfD, tyNm, fAppend, mBM, mBM0, isL, DL.listOf, sSetItem, fSetItem, sPar, sAsg, tgName, tgTup, tgNil, tgCons, kit_ii, kit_bi, kit_ni, kit_si, kit_ti, kit_li, kit_ib, kit_bb, kit_nb, kit_sb, kit_tb, kit_lb, kit_it, kit_bt, kit_nt, kit_st, kit_tt, kit_lt, kit_is, kit_bs, kit_ns, kit_ss, kit_ts, kit_ls, kit_il, kit_bl, kit_nl, kit_sl, kit_tl, kit_ll, mCall, mCallD, callF, pass_nil, pass_p, pass_f, pass_m, callR, nodupB, setCells, yes2, line, range_1, range_2, List.length_cons, List.length_nil, List.getElem?_cons_zero, List.getElem?_cons_succ, List.map_cons, List.map_nil, List.replicate_zero, List.replicate_succ, List.range_zero, List.set_cons_zero, List.set_cons_succ, List.append_nil, List.nil_append, List.cons_append, List.contains_nil, if_true, if_false, ite_true, ite_false, reduceIte, Bool.and_true, Bool.true_and, Bool.not_true, Bool.not_false, Bool.false_and, Bool.and_false, decide_true, decide_false, Nat.reduceLeDiff, Nat.reduceSub, Nat.reduceAdd, Nat.reduceLT, Int.reduceLT, Int.reduceLE, Int.reduceEq, Int.reduceNe, Option.map_some, Option.map_none, Option.bind_some, Option.bind_none, decide_not, ne_eq, not_true_eq_false, not_false_eq_true, reduceCtorEq, and_self, nc0, nc1, nc2, nc3, nc4, nc5, nc6, f__law_made, m__law_made, sTryAs, h, isA_BadRatio, outAs, mXf, hl, exitS]
end K01
namespace K01
open PySem PySem.Spec L2 DL
theorem Hand.mono {ns : List Int} {c d : Nat} {l : List PD} (H : Hand ns c l) (h : c ≤ d) : Hand ns d l := by
  obtain ⟨i, cnt, big, tot, e, a, b, x, y, z⟩ := H
  exact ⟨i, cnt, big, tot, e, a, b, by omega, y, z⟩
theorem sgn_sm {k : Nat} {t v : Int} (h0 : 0 ≤ t) (h1 : t < 2) (h : Sm k v) : Sm k ((1 - 2 * t) * v) := by
  have : t = 0 ∨ t = 1 := by omega
  rcases this with rfl | rfl
  · have e : (1 - 2 * 0) * v = v := by omega
    rw [e]; exact h
  · have e : (1 - 2 * 1) * v = -v := by omega
    rw [e]; exact h.neg
theorem number_eq {ns : List Int} {c : Nat} {l : List PD} (H : Hand ns c l) (hc : c + 4 < 10000) : ∃ r l', f__law_number [] [l] = .ok (.int r) [l'] ∧ Sm 100 r ∧ Hand ns (c + 4) l' := by
  obtain ⟨p, l1, e1, p0, p1, H1⟩ := draw_eq (many := 4) H (by omega) (by decide) (by unfold Sm; decide)
  obtain ⟨t, l2, e2, t0, t1, H2⟩ := draw_eq (many := 2) H1 (by omega) (by decide) (by unfold Sm; decide)
  have st : Sm 10 t := Sm.of_le (n := 2) (by omega) (by decide)
  have b2 : bigC 2 t = true := bigC_of (k := 10) (by unfold Sm; decide) st (by decide) (by decide) (by decide)
  have sg : Sm 10 (1 - 2 * t) := Sm.of_le (n := 2) (by omega) (by decide)
  by_cases q0 : p = 0
  · obtain ⟨v, l3, e3, v0, v1, H3⟩ := draw_eq (many := 3) H2 (by omega) (by decide) (by unfold Sm; decide)
    have sv : Sm 100 v := Sm.of_le (n := 3) (by omega) (by decide)
    have b3 : bigC (1 - 2 * t) v = true := bigC_of sg sv (by decide) (by decide) (by decide)
    refine ⟨(1 - 2 * t) * v, l3, ?_, sgn_sm t0 t1 sv, H3.mono (by omega)⟩
    simp only [runF, entry, initE, fin, finR, frz_p, frz_ref, frzW_nil, frzW_p, frzW_ref, frzW_map, contN, cont, pds, pds_map, mb, eb, sSeq, sSet, sRet, sRetN, sIf, sNext, sExpr, sBreak, sCont, mVar, mC, mCons, mNil, mTup, fTup, mLst, fLst, mBin, mUn, mCB, mTest, mTru, truF, mAndT, mOrT, mNotT, mAnd, mOr, mNot, mIf, mChain, map_p_nil, map_p_cons, deepV_p, okq_non, okq_bl, okq_int, okq_str, okq_tup, okq_lst, okqs_nil, okqs_cons, fEq_ii, fNe_ii, fEq_ss, fNe_ss, at0, at1, at2, at3, at4, seqOf_tup, seqOf_lst, seqOf_ref, listOf_lst, listOf_ref, fIx_tup, fIx_lst, fIx_ref, ix10, ix20, ix21, ix30, ix31, ix32, ix40, ix41, ix42, ix43, ix50, ix51, ix52, ix53, ix54, ix60, ix61, ix62, ix63, ix64, ix65, ix70, ix71, ix72, ix73, ix74, ix75, ix76, ix80, ix81, ix82, ix83, ix84, ix85, ix86, ix87, fI, fSub, fDiv, fMod, fPow, fNeg, fLt, fLe, fGt, fGe, fOrd, fGcd, fAbs, fInt, fLen, fStr, fIs, fIsNot, isNon, fAdd, fMul, fIsi, tyOfD, tyNm, fAppend, mBM, mBM0, isL, DL.listOf, sSetItem, fSetItem, sPar, sAsg, tgName, tgTup, tgNil, tgCons, kit_ii, kit_bi, kit_ni, kit_si, kit_ti, kit_li, kit_ib, kit_bb, kit_nb, kit_sb, kit_tb, kit_lb, kit_it, kit_bt, kit_nt, kit_st, kit_tt, kit_lt, kit_is, kit_bs, kit_ns, kit_ss, kit_ts, kit_ls, kit_il, kit_bl, kit_nl, kit_sl, kit_tl, kit_ll, mCall, mCallD, callF, pass_nil, pass_p, pass_f, pass_m, callR, nodupB, setCells, yes2, line, range_1, range_2, List.length_cons, List.length_nil, List.getElem?_cons_zero, List.getElem?_cons_succ, List.map_cons, List.map_nil, List.replicate_zero, List.replicate_succ, List.range_zero, List.set_cons_zero, List.set_cons_succ, List.append_nil, List.nil_append, List.cons_append, List.contains_nil, if_true, if_false, ite_true, ite_false, reduceIte, Bool.and_true, Bool.true_and, Bool.not_true, Bool.not_false, Bool.false_and, Bool.and_false, decide_true, decide_false, Nat.reduceLeDiff, Nat.reduceSub, Nat.reduceAdd, Nat.reduceLT, Int.reduceLT, Int.reduceLE, Int.reduceEq, Int.reduceNe, Option.map_some, Option.map_none, Option.bind_some, Option.bind_none, decide_not, ne_eq, not_true_eq_false, not_false_eq_true, reduceCtorEq, and_self, nc0, nc1, nc2, nc3, nc4, nc5, nc6, f__law_number, m__law_number, e1, e2, b2, q0, e3, b3]
  · by_cases q1 : p = 1
    · obtain ⟨v, l3, e3, v0, v1, H3⟩ := draw_eq (many := 13) H2 (by omega) (by decide) (by unfold Sm; decide)
      have sv : Sm 100 v := Sm.of_le (n := 13) (by omega) (by decide)
      have b3 : bigC (1 - 2 * t) v = true := bigC_of sg sv (by decide) (by decide) (by decide)
      refine ⟨(1 - 2 * t) * v, l3, ?_, sgn_sm t0 t1 sv, H3.mono (by omega)⟩
      simp only [runF, entry, initE, fin, finR, frz_p, frz_ref, frzW_nil, frzW_p, frzW_ref, frzW_map, contN, cont, pds, pds_map, mb, eb, sSeq, sSet, sRet, sRetN, sIf, sNext, sExpr, sBreak, sCont, mVar, mC, mCons, mNil, mTup, fTup, mLst, fLst, mBin, mUn, mCB, mTest, mTru, truF, mAndT, mOrT, mNotT, mAnd, mOr, mNot, mIf, mChain, map_p_nil, map_p_cons, deepV_p, okq_non, okq_bl, okq_int, okq_str, okq_tup, okq_lst, okqs_nil, okqs_cons, fEq_ii, fNe_ii, fEq_ss, fNe_ss, at0, at1, at2, at3, at4, seqOf_tup, seqOf_lst, seqOf_ref, listOf_lst, listOf_ref, fIx_tup, fIx_lst, fIx_ref, ix10, ix20, ix21, ix30, ix31, ix32, ix40, ix41, ix42, ix43, ix50, ix51, ix52, ix53, ix54, ix60, ix61, ix62, ix63, ix64, ix65, ix70, ix71, ix72, ix73, ix74, ix75, ix76, ix80, ix81, ix82, ix83, ix84, ix85, ix86, ix87, fI, fSub, fDiv, fMod, fPow, fNeg, fLt, fLe, fGt, fGe, fOrd, fGcd, fAbs, fInt, fLen, fStr, fIs, fIsNot, isNon, fAdd, fMul, fIsi, tyOfD, tyNm, fAppend, mBM, mBM0, isL, DL.listOf, sSetItem, fSetItem, sPar, sAsg, tgName, tgTup, tgNil, tgCons, kit_ii, kit_bi, kit_ni, kit_si, kit_ti, kit_li, kit_ib, kit_bb, kit_nb, kit_sb, kit_tb, kit_lb, kit_it, kit_bt, kit_nt, kit_st, kit_tt, kit_lt, kit_is, kit_bs, kit_ns, kit_ss, kit_ts, kit_ls, kit_il, kit_bl, kit_nl, kit_sl, kit_tl, kit_ll, mCall, mCallD, callF, pass_nil, pass_p, pass_f, pass_m, callR, nodupB, setCells, yes2, line, range_1, range_2, List.length_cons, List.length_nil, List.getElem?_cons_zero, List.getElem?_cons_succ, List.map_cons, List.map_nil, List.replicate_zero, List.replicate_succ, List.range_zero, List.set_cons_zero, List.set_cons_succ, List.append_nil, List.nil_append, List.cons_append, List.contains_nil, if_true, if_false, ite_true, ite_false, reduceIte, Bool.and_true, Bool.true_and, Bool.not_true, Bool.not_false, Bool.false_and, Bool.and_false, decide_true, decide_false, Nat.reduceLeDiff, Nat.reduceSub, Nat.reduceAdd, Nat.reduceLT, Int.reduceLT, Int.reduceLE, Int.reduceEq, Int.reduceNe, Option.map_some, Option.map_none, Option.bind_some, Option.bind_none, decide_not, ne_eq, not_true_eq_false, not_false_eq_true, reduceCtorEq, and_self, nc0, nc1, nc2, nc3, nc4, nc5, nc6, f__law_number, m__law_number, e1, e2, b2, q0, q1, e3, b3]
    · by_cases q2 : p = 2
      · obtain ⟨v, l3, e3, v0, v1, H3⟩ := draw_eq (many := (10 : Int) ^ Int.toNat 6) H2 (by omega) (by decide) (by unfold Sm; decide)
        have ez : (10 : Int) ^ Int.toNat 6 = 1000000 := by decide
        have pz : powC 10 6 = true := by decide
        have sv : Sm 100 v := Sm.of_le (n := 1000000) (by omega) (by decide)
        have b3 : bigC (1 - 2 * t) v = true := bigC_of sg sv (by decide) (by decide) (by decide)
        refine ⟨(1 - 2 * t) * v, l3, ?_, sgn_sm t0 t1 sv, H3.mono (by omega)⟩
        simp only [runF, entry, initE, fin, finR, frz_p, frz_ref, frzW_nil, frzW_p, frzW_ref, frzW_map, contN, cont, pds, pds_map, mb, eb, sSeq, sSet, sRet, sRetN, sIf, sNext, sExpr, sBreak, sCont, mVar, mC, mCons, mNil, mTup, fTup, mLst, fLst, mBin, mUn, mCB, mTest, mTru, truF, mAndT, mOrT, mNotT, mAnd, mOr, mNot, mIf, mChain, map_p_nil, map_p_cons, deepV_p, okq_non, okq_bl, okq_int, okq_str, okq_tup, okq_lst, okqs_nil, okqs_cons, fEq_ii, fNe_ii, fEq_ss, fNe_ss, at0, at1, at2, at3, at4, seqOf_tup, seqOf_lst, seqOf_ref, listOf_lst, listOf_ref, fIx_tup, fIx_lst, fIx_ref, ix10, ix20, ix21, ix30, ix31, ix32, ix40, ix41, ix42, ix43, ix50, ix51, ix52, ix53, ix54, ix60, ix61, ix62, ix63, ix64, ix65, ix70, ix71, ix72, ix73, ix74, ix75, ix76, ix80, ix81, ix82, ix83, ix84, ix85, ix86, ix87, fI, fSub, fDiv, fMod, fPow, fNeg, fLt, fLe, fGt, fGe, fOrd, fGcd, fAbs, fInt, fLen, fStr, fIs, fIsNot, isNon, fAdd, fMul, fIsi, tyOfD, tyNm, fAppend, mBM, mBM0, isL, DL.listOf, sSetItem, fSetItem, sPar, sAsg, tgName, tgTup, tgNil, tgCons, kit_ii, kit_bi, kit_ni, kit_si, kit_ti, kit_li, kit_ib, kit_bb, kit_nb, kit_sb, kit_tb, kit_lb, kit_it, kit_bt, kit_nt, kit_st, kit_tt, kit_lt, kit_is, kit_bs, kit_ns, kit_ss, kit_ts, kit_ls, kit_il, kit_bl, kit_nl, kit_sl, kit_tl, kit_ll, mCall, mCallD, callF, pass_nil, pass_p, pass_f, pass_m, callR, nodupB, setCells, yes2, line, range_1, range_2, List.length_cons, List.length_nil, List.getElem?_cons_zero, List.getElem?_cons_succ, List.map_cons, List.map_nil, List.replicate_zero, List.replicate_succ, List.range_zero, List.set_cons_zero, List.set_cons_succ, List.append_nil, List.nil_append, List.cons_append, List.contains_nil, if_true, if_false, ite_true, ite_false, reduceIte, Bool.and_true, Bool.true_and, Bool.not_true, Bool.not_false, Bool.false_and, Bool.and_false, decide_true, decide_false, Nat.reduceLeDiff, Nat.reduceSub, Nat.reduceAdd, Nat.reduceLT, Int.reduceLT, Int.reduceLE, Int.reduceEq, Int.reduceNe, Option.map_some, Option.map_none, Option.bind_some, Option.bind_none, decide_not, ne_eq, not_true_eq_false, not_false_eq_true, reduceCtorEq, and_self, nc0, nc1, nc2, nc3, nc4, nc5, nc6, f__law_number, m__law_number, e1, e2, b2, q0, q1, q2, pz, e3, b3]
      · obtain ⟨v, l3, e3, v0, v1, H3⟩ := draw_eq (many := (10 : Int) ^ Int.toNat 15) H2 (by omega) (by decide) (by unfold Sm; decide)
        obtain ⟨u, l4, e4, u0, u1, H4⟩ := draw_eq (many := (10 : Int) ^ Int.toNat 15) H3 (by omega) (by decide) (by unfold Sm; decide)
        have ez : (10 : Int) ^ Int.toNat 15 = 1000000000000000 := by decide
        have pz : powC 10 15 = true := by decide
        have sv : Sm 100 (v * (10 : Int) ^ Int.toNat 15 + u) := Sm.of_le (n := 1000000000000000 * 1000000000000000) (by rw [ez] at v1 u1 ⊢; omega) (by decide)
        have b3 : bigC (1 - 2 * t) (v * (10 : Int) ^ Int.toNat 15 + u) = true := bigC_of sg sv (by decide) (by decide) (by decide)
        have b4 : bigC v ((10 : Int) ^ Int.toNat 15) = true := bigC_of (k := 100) (l := 100) (Sm.of_le (n := 1000000000000000) (by omega) (by decide)) (by unfold Sm; decide) (by decide) (by decide) (by decide)
        refine ⟨(1 - 2 * t) * (v * (10 : Int) ^ Int.toNat 15 + u), l4, ?_, sgn_sm t0 t1 sv, H4.mono (by omega)⟩
        simp only [runF, entry, initE, fin, finR, frz_p, frz_ref, frzW_nil, frzW_p, frzW_ref, frzW_map, contN, cont, pds, pds_map, mb, eb, sSeq, sSet, sRet, sRetN, sIf, sNext, sExpr, sBreak, sCont, mVar, mC, mCons, mNil, mTup, fTup, mLst, fLst, mBin, mUn, mCB, mTest, mTru, truF, mAndT, mOrT, mNotT, mAnd, mOr, mNot, mIf, mChain, map_p_nil, map_p_cons, deepV_p, okq_non, okq_bl, okq_int, okq_str, okq_tup, okq_lst, okqs_nil, okqs_cons, fEq_ii, fNe_ii, fEq_ss, fNe_ss, at0, at1, at2, at3, at4, seqOf_tup, seqOf_lst, seqOf_ref, listOf_lst, listOf_ref, fIx_tup, fIx_lst, fIx_ref, ix10, ix20, ix21, ix30, ix31, ix32, ix40, ix41, ix42, ix43, ix50, ix51, ix52, ix53, ix54, ix60, ix61, ix62, ix63, ix64, ix65, ix70, ix71, ix72, ix73, ix74, ix75, ix76, ix80, ix81, ix82, ix83, ix84, ix85, ix86, ix87, fI, fSub, fDiv, fMod, fPow, fNeg, fLt, fLe, fGt, fGe, fOrd, fGcd, fAbs, fInt, fLen, fStr, fIs, fIsNot, isNon, fAdd, fMul, fIsi, tyOfD, tyNm, fAppend, mBM, mBM0, isL, DL.listOf, sSetItem, fSetItem, sPar, sAsg, tgName, tgTup, tgNil, tgCons, kit_ii, kit_bi, kit_ni, kit_si, kit_ti, kit_li, kit_ib, kit_bb, kit_nb, kit_sb, kit_tb, kit_lb, kit_it, kit_bt, kit_nt, kit_st, kit_tt, kit_lt, kit_is, kit_bs, kit_ns, kit_ss, kit_ts, kit_ls, kit_il, kit_bl, kit_nl, kit_sl, kit_tl, kit_ll, mCall, mCallD, callF, pass_nil, pass_p, pass_f, pass_m, callR, nodupB, setCells, yes2, line, range_1, range_2, List.length_cons, List.length_nil, List.getElem?_cons_zero, List.getElem?_cons_succ, List.map_cons, List.map_nil, List.replicate_zero, List.replicate_succ, List.range_zero, List.set_cons_zero, List.set_cons_succ, List.append_nil, List.nil_append, List.cons_append, List.contains_nil, if_true, if_false, ite_true, ite_false, reduceIte, Bool.and_true, Bool.true_and, Bool.not_true, Bool.not_false, Bool.false_and, Bool.and_false, decide_true, decide_false, Nat.reduceLeDiff, Nat.reduceSub, Nat.reduceAdd, Nat.reduceLT, Int.reduceLT, Int.reduceLE, Int.reduceEq, Int.reduceNe, Option.map_some, Option.map_none, Option.bind_some, Option.bind_none, decide_not, ne_eq, not_true_eq_false, not_false_eq_true, reduceCtorEq, and_self, nc0, nc1, nc2, nc3, nc4, nc5, nc6, f__law_number, m__law_number, e1, e2, b2, q0, q1, q2, pz, e3, e4, b3, b4]
theorem isr_two (a b : Int) : f_is_ratio [.tup [.int a, .int b]] [] = .ok (.bl (decide (1 ≤ b) && decide (gI a b = 1))) [] := by
  have eg : ((Nat.gcd a.natAbs b.natAbs : Nat) : Int) = gI a b := rfl
  by_cases h : 1 ≤ b
  · simp only [runF, entry, initE, fin, finR, frz_p, frz_ref, frzW_nil, frzW_p, frzW_ref, frzW_map, contN, cont, pds, pds_map, mb, eb, sSeq, sSet, sRet, sRetN, sIf, sNext, sExpr, sBreak, sCont, mVar, mC, mCons, mNil, mTup, fTup, mLst, fLst, mBin, mUn, mCB, mTest, mTru, truF, mAndT, mOrT, mNotT, mAnd, mOr, mNot, mIf, mChain, map_p_nil, map_p_cons, deepV_p, okq_non, okq_bl, okq_int, okq_str, okq_tup, okq_lst, okqs_nil, okqs_cons, fEq_ii, fNe_ii, fEq_ss, fNe_ss, at0, at1, at2, at3, at4, seqOf_tup, seqOf_lst, seqOf_ref, listOf_lst, listOf_ref, fIx_tup, fIx_lst, fIx_ref, ix10, ix20, ix21, ix30, ix31, ix32, ix40, ix41, ix42, ix43, ix50, ix51, ix52, ix53, ix54, ix60, ix61, ix62, ix63, ix64, ix65, ix70, ix71, ix72, ix73, ix74, ix75, ix76, ix80, ix81, ix82, ix83, ix84, ix85, ix86, ix87, fI, fSub, fDiv, fMod, fPow, fNeg, fLt, fLe, fGt, fGe, fOrd, fGcd, fAbs, fInt, fLen, fStr, fIs, fIsNot, isNon, fAdd, fMul, fIsi, tyOfD, tyNm, fAppend, mBM, mBM0, isL, DL.listOf, sSetItem, fSetItem, sPar, sAsg, tgName, tgTup, tgNil, tgCons, kit_ii, kit_bi, kit_ni, kit_si, kit_ti, kit_li, kit_ib, kit_bb, kit_nb, kit_sb, kit_tb, kit_lb, kit_it, kit_bt, kit_nt, kit_st, kit_tt, kit_lt, kit_is, kit_bs, kit_ns, kit_ss, kit_ts, kit_ls, kit_il, kit_bl, kit_nl, kit_sl, kit_tl, kit_ll, mCall, mCallD, callF, pass_nil, pass_p, pass_f, pass_m, callR, nodupB, setCells, yes2, line, range_1, range_2, List.length_cons, List.length_nil, List.getElem?_cons_zero, List.getElem?_cons_succ, List.map_cons, List.map_nil, List.replicate_zero, List.replicate_succ, List.range_zero, List.set_cons_zero, List.set_cons_succ, List.append_nil, List.nil_append, List.cons_append, List.contains_nil, if_true, if_false, ite_true, ite_false, reduceIte, Bool.and_true, Bool.true_and, Bool.not_true, Bool.not_false, Bool.false_and, Bool.and_false, decide_true, decide_false, Nat.reduceLeDiff, Nat.reduceSub, Nat.reduceAdd, Nat.reduceLT, Int.reduceLT, Int.reduceLE, Int.reduceEq, Int.reduceNe, Option.map_some, Option.map_none, Option.bind_some, Option.bind_none, decide_not, ne_eq, not_true_eq_false, not_false_eq_true, reduceCtorEq, and_self, nc0, nc1, nc2, nc3, nc4, nc5, nc6, f_is_ratio, m_is_ratio, whole_int, whole_lo, h, eg]
  · simp only [runF, entry, initE, fin, finR, frz_p, frz_ref, frzW_nil, frzW_p, frzW_ref, frzW_map, contN, cont, pds, pds_map, mb, eb, sSeq, sSet, sRet, sRetN, sIf, sNext, sExpr, sBreak, sCont, mVar, mC, mCons, mNil, mTup, fTup, mLst, fLst, mBin, mUn, mCB, mTest, mTru, truF, mAndT, mOrT, mNotT, mAnd, mOr, mNot, mIf, mChain, map_p_nil, map_p_cons, deepV_p, okq_non, okq_bl, okq_int, okq_str, okq_tup, okq_lst, okqs_nil, okqs_cons, fEq_ii, fNe_ii, fEq_ss, fNe_ss, at0, at1, at2, at3, at4, seqOf_tup, seqOf_lst, seqOf_ref, listOf_lst, listOf_ref, fIx_tup, fIx_lst, fIx_ref, ix10, ix20, ix21, ix30, ix31, ix32, ix40, ix41, ix42, ix43, ix50, ix51, ix52, ix53, ix54, ix60, ix61, ix62, ix63, ix64, ix65, ix70, ix71, ix72, ix73, ix74, ix75, ix76, ix80, ix81, ix82, ix83, ix84, ix85, ix86, ix87, fI, fSub, fDiv, fMod, fPow, fNeg, fLt, fLe, fGt, fGe, fOrd, fGcd, fAbs, fInt, fLen, fStr, fIs, fIsNot, isNon, fAdd, fMul, fIsi, tyOfD, tyNm, fAppend, mBM, mBM0, isL, DL.listOf, sSetItem, fSetItem, sPar, sAsg, tgName, tgTup, tgNil, tgCons, kit_ii, kit_bi, kit_ni, kit_si, kit_ti, kit_li, kit_ib, kit_bb, kit_nb, kit_sb, kit_tb, kit_lb, kit_it, kit_bt, kit_nt, kit_st, kit_tt, kit_lt, kit_is, kit_bs, kit_ns, kit_ss, kit_ts, kit_ls, kit_il, kit_bl, kit_nl, kit_sl, kit_tl, kit_ll, mCall, mCallD, callF, pass_nil, pass_p, pass_f, pass_m, callR, nodupB, setCells, yes2, line, range_1, range_2, List.length_cons, List.length_nil, List.getElem?_cons_zero, List.getElem?_cons_succ, List.map_cons, List.map_nil, List.replicate_zero, List.replicate_succ, List.range_zero, List.set_cons_zero, List.set_cons_succ, List.append_nil, List.nil_append, List.cons_append, List.contains_nil, if_true, if_false, ite_true, ite_false, reduceIte, Bool.and_true, Bool.true_and, Bool.not_true, Bool.not_false, Bool.false_and, Bool.and_false, decide_true, decide_false, Nat.reduceLeDiff, Nat.reduceSub, Nat.reduceAdd, Nat.reduceLT, Int.reduceLT, Int.reduceLE, Int.reduceEq, Int.reduceNe, Option.map_some, Option.map_none, Option.bind_some, Option.bind_none, decide_not, ne_eq, not_true_eq_false, not_false_eq_true, reduceCtorEq, and_self, nc0, nc1, nc2, nc3, nc4, nc5, nc6, f_is_ratio, m_is_ratio, whole_int, whole_lo, h, eg]
theorem isr_bl (b : Bool) : f_is_ratio [.bl b] [] = .ok (.bl false) [] := by simp only [runF, entry, initE, fin, finR, frz_p, frz_ref, frzW_nil, frzW_p, frzW_ref, frzW_map, contN, cont, pds, pds_map, mb, eb, sSeq, sSet, sRet, sRetN, sIf, sNext, sExpr, sBreak, sCont, mVar, mC, mCons, mNil, mTup, fTup, mLst, fLst, mBin, mUn, mCB, mTest, mTru, truF, mAndT, mOrT, mNotT, mAnd, mOr, mNot, mIf, mChain, map_p_nil, map_p_cons, deepV_p, okq_non, okq_bl, okq_int, okq_str, okq_tup, okq_lst, okqs_nil, okqs_cons, fEq_ii, fNe_ii, fEq_ss, fNe_ss, at0, at1, at2, at3, at4, seqOf_tup, seqOf_lst, seqOf_ref, listOf_lst, listOf_ref, fIx_tup, fIx_lst, fIx_ref, ix10, ix20, ix21, ix30, ix31, ix32, ix40, ix41, ix42, ix43, ix50, ix51, ix52, ix53, ix54, ix60, ix61, ix62, ix63, ix64, ix65, ix70, ix71, ix72, ix73, ix74, ix75, ix76, ix80, ix81, ix82, ix83, ix84, ix85, ix86, ix87, fI, fSub, fDiv, fMod, fPow, fNeg, fLt, fLe, fGt, fGe, fOrd, fGcd, fAbs, fInt, fLen, fStr, fIs, fIsNot, isNon, fAdd, fMul, fIsi, tyOfD, tyNm, fAppend, mBM, mBM0, isL, DL.listOf, sSetItem, fSetItem, sPar, sAsg, tgName, tgTup, tgNil, tgCons, kit_ii, kit_bi, kit_ni, kit_si, kit_ti, kit_li, kit_ib, kit_bb, kit_nb, kit_sb, kit_tb, kit_lb, kit_it, kit_bt, kit_nt, kit_st, kit_tt, kit_lt, kit_is, kit_bs, kit_ns, kit_ss, kit_ts, kit_ls, kit_il, kit_bl, kit_nl, kit_sl, kit_tl, kit_ll, mCall, mCallD, callF, pass_nil, pass_p, pass_f, pass_m, callR, nodupB, setCells, yes2, line, range_1, range_2, List.length_cons, List.length_nil, List.getElem?_cons_zero, List.getElem?_cons_succ, List.map_cons, List.map_nil, List.replicate_zero, List.replicate_succ, List.range_zero, List.set_cons_zero, List.set_cons_succ, List.append_nil, List.nil_append, List.cons_append, List.contains_nil, if_true, if_false, ite_true, ite_false, reduceIte, Bool.and_true, Bool.true_and, Bool.not_true, Bool.not_false, Bool.false_and, Bool.and_false, decide_true, decide_false, Nat.reduceLeDiff, Nat.reduceSub, Nat.reduceAdd, Nat.reduceLT, Int.reduceLT, Int.reduceLE, Int.reduceEq, Int.reduceNe, Option.map_some, Option.map_none, Option.bind_some, Option.bind_none, decide_not, ne_eq, not_true_eq_false, not_false_eq_true, reduceCtorEq, and_self, nc0, nc1, nc2, nc3, nc4, nc5, nc6, f_is_ratio, m_is_ratio]
theorem isr_non : f_is_ratio [.non] [] = .ok (.bl false) [] := by simp only [runF, entry, initE, fin, finR, frz_p, frz_ref, frzW_nil, frzW_p, frzW_ref, frzW_map, contN, cont, pds, pds_map, mb, eb, sSeq, sSet, sRet, sRetN, sIf, sNext, sExpr, sBreak, sCont, mVar, mC, mCons, mNil, mTup, fTup, mLst, fLst, mBin, mUn, mCB, mTest, mTru, truF, mAndT, mOrT, mNotT, mAnd, mOr, mNot, mIf, mChain, map_p_nil, map_p_cons, deepV_p, okq_non, okq_bl, okq_int, okq_str, okq_tup, okq_lst, okqs_nil, okqs_cons, fEq_ii, fNe_ii, fEq_ss, fNe_ss, at0, at1, at2, at3, at4, seqOf_tup, seqOf_lst, seqOf_ref, listOf_lst, listOf_ref, fIx_tup, fIx_lst, fIx_ref, ix10, ix20, ix21, ix30, ix31, ix32, ix40, ix41, ix42, ix43, ix50, ix51, ix52, ix53, ix54, ix60, ix61, ix62, ix63, ix64, ix65, ix70, ix71, ix72, ix73, ix74, ix75, ix76, ix80, ix81, ix82, ix83, ix84, ix85, ix86, ix87, fI, fSub, fDiv, fMod, fPow, fNeg, fLt, fLe, fGt, fGe, fOrd, fGcd, fAbs, fInt, fLen, fStr, fIs, fIsNot, isNon, fAdd, fMul, fIsi, tyOfD, tyNm, fAppend, mBM, mBM0, isL, DL.listOf, sSetItem, fSetItem, sPar, sAsg, tgName, tgTup, tgNil, tgCons, kit_ii, kit_bi, kit_ni, kit_si, kit_ti, kit_li, kit_ib, kit_bb, kit_nb, kit_sb, kit_tb, kit_lb, kit_it, kit_bt, kit_nt, kit_st, kit_tt, kit_lt, kit_is, kit_bs, kit_ns, kit_ss, kit_ts, kit_ls, kit_il, kit_bl, kit_nl, kit_sl, kit_tl, kit_ll, mCall, mCallD, callF, pass_nil, pass_p, pass_f, pass_m, callR, nodupB, setCells, yes2, line, range_1, range_2, List.length_cons, List.length_nil, List.getElem?_cons_zero, List.getElem?_cons_succ, List.map_cons, List.map_nil, List.replicate_zero, List.replicate_succ, List.range_zero, List.set_cons_zero, List.set_cons_succ, List.append_nil, List.nil_append, List.cons_append, List.contains_nil, if_true, if_false, ite_true, ite_false, reduceIte, Bool.and_true, Bool.true_and, Bool.not_true, Bool.not_false, Bool.false_and, Bool.and_false, decide_true, decide_false, Nat.reduceLeDiff, Nat.reduceSub, Nat.reduceAdd, Nat.reduceLT, Int.reduceLT, Int.reduceLE, Int.reduceEq, Int.reduceNe, Option.map_some, Option.map_none, Option.bind_some, Option.bind_none, decide_not, ne_eq, not_true_eq_false, not_false_eq_true, reduceCtorEq, and_self, nc0, nc1, nc2, nc3, nc4, nc5, nc6, f_is_ratio, m_is_ratio]
theorem isr_str (x : Str) : f_is_ratio [.str x] [] = .ok (.bl false) [] := by simp only [runF, entry, initE, fin, finR, frz_p, frz_ref, frzW_nil, frzW_p, frzW_ref, frzW_map, contN, cont, pds, pds_map, mb, eb, sSeq, sSet, sRet, sRetN, sIf, sNext, sExpr, sBreak, sCont, mVar, mC, mCons, mNil, mTup, fTup, mLst, fLst, mBin, mUn, mCB, mTest, mTru, truF, mAndT, mOrT, mNotT, mAnd, mOr, mNot, mIf, mChain, map_p_nil, map_p_cons, deepV_p, okq_non, okq_bl, okq_int, okq_str, okq_tup, okq_lst, okqs_nil, okqs_cons, fEq_ii, fNe_ii, fEq_ss, fNe_ss, at0, at1, at2, at3, at4, seqOf_tup, seqOf_lst, seqOf_ref, listOf_lst, listOf_ref, fIx_tup, fIx_lst, fIx_ref, ix10, ix20, ix21, ix30, ix31, ix32, ix40, ix41, ix42, ix43, ix50, ix51, ix52, ix53, ix54, ix60, ix61, ix62, ix63, ix64, ix65, ix70, ix71, ix72, ix73, ix74, ix75, ix76, ix80, ix81, ix82, ix83, ix84, ix85, ix86, ix87, fI, fSub, fDiv, fMod, fPow, fNeg, fLt, fLe, fGt, fGe, fOrd, fGcd, fAbs, fInt, fLen, fStr, fIs, fIsNot, isNon, fAdd, fMul, fIsi, tyOfD, tyNm, fAppend, mBM, mBM0, isL, DL.listOf, sSetItem, fSetItem, sPar, sAsg, tgName, tgTup, tgNil, tgCons, kit_ii, kit_bi, kit_ni, kit_si, kit_ti, kit_li, kit_ib, kit_bb, kit_nb, kit_sb, kit_tb, kit_lb, kit_it, kit_bt, kit_nt, kit_st, kit_tt, kit_lt, kit_is, kit_bs, kit_ns, kit_ss, kit_ts, kit_ls, kit_il, kit_bl, kit_nl, kit_sl, kit_tl, kit_ll, mCall, mCallD, callF, pass_nil, pass_p, pass_f, pass_m, callR, nodupB, setCells, yes2, line, range_1, range_2, List.length_cons, List.length_nil, List.getElem?_cons_zero, List.getElem?_cons_succ, List.map_cons, List.map_nil, List.replicate_zero, List.replicate_succ, List.range_zero, List.set_cons_zero, List.set_cons_succ, List.append_nil, List.nil_append, List.cons_append, List.contains_nil, if_true, if_false, ite_true, ite_false, reduceIte, Bool.and_true, Bool.true_and, Bool.not_true, Bool.not_false, Bool.false_and, Bool.and_false, decide_true, decide_false, Nat.reduceLeDiff, Nat.reduceSub, Nat.reduceAdd, Nat.reduceLT, Int.reduceLT, Int.reduceLE, Int.reduceEq, Int.reduceNe, Option.map_some, Option.map_none, Option.bind_some, Option.bind_none, decide_not, ne_eq, not_true_eq_false, not_false_eq_true, reduceCtorEq, and_self, nc0, nc1, nc2, nc3, nc4, nc5, nc6, f_is_ratio, m_is_ratio]
theorem isr_lst (x : List PD) : f_is_ratio [.lst x] [] = .ok (.bl false) [] := by simp only [runF, entry, initE, fin, finR, frz_p, frz_ref, frzW_nil, frzW_p, frzW_ref, frzW_map, contN, cont, pds, pds_map, mb, eb, sSeq, sSet, sRet, sRetN, sIf, sNext, sExpr, sBreak, sCont, mVar, mC, mCons, mNil, mTup, fTup, mLst, fLst, mBin, mUn, mCB, mTest, mTru, truF, mAndT, mOrT, mNotT, mAnd, mOr, mNot, mIf, mChain, map_p_nil, map_p_cons, deepV_p, okq_non, okq_bl, okq_int, okq_str, okq_tup, okq_lst, okqs_nil, okqs_cons, fEq_ii, fNe_ii, fEq_ss, fNe_ss, at0, at1, at2, at3, at4, seqOf_tup, seqOf_lst, seqOf_ref, listOf_lst, listOf_ref, fIx_tup, fIx_lst, fIx_ref, ix10, ix20, ix21, ix30, ix31, ix32, ix40, ix41, ix42, ix43, ix50, ix51, ix52, ix53, ix54, ix60, ix61, ix62, ix63, ix64, ix65, ix70, ix71, ix72, ix73, ix74, ix75, ix76, ix80, ix81, ix82, ix83, ix84, ix85, ix86, ix87, fI, fSub, fDiv, fMod, fPow, fNeg, fLt, fLe, fGt, fGe, fOrd, fGcd, fAbs, fInt, fLen, fStr, fIs, fIsNot, isNon, fAdd, fMul, fIsi, tyOfD, tyNm, fAppend, mBM, mBM0, isL, DL.listOf, sSetItem, fSetItem, sPar, sAsg, tgName, tgTup, tgNil, tgCons, kit_ii, kit_bi, kit_ni, kit_si, kit_ti, kit_li, kit_ib, kit_bb, kit_nb, kit_sb, kit_tb, kit_lb, kit_it, kit_bt, kit_nt, kit_st, kit_tt, kit_lt, kit_is, kit_bs, kit_ns, kit_ss, kit_ts, kit_ls, kit_il, kit_bl, kit_nl, kit_sl, kit_tl, kit_ll, mCall, mCallD, callF, pass_nil, pass_p, pass_f, pass_m, callR, nodupB, setCells, yes2, line, range_1, range_2, List.length_cons, List.length_nil, List.getElem?_cons_zero, List.getElem?_cons_succ, List.map_cons, List.map_nil, List.replicate_zero, List.replicate_succ, List.range_zero, List.set_cons_zero, List.set_cons_succ, List.append_nil, List.nil_append, List.cons_append, List.contains_nil, if_true, if_false, ite_true, ite_false, reduceIte, Bool.and_true, Bool.true_and, Bool.not_true, Bool.not_false, Bool.false_and, Bool.and_false, decide_true, decide_false, Nat.reduceLeDiff, Nat.reduceSub, Nat.reduceAdd, Nat.reduceLT, Int.reduceLT, Int.reduceLE, Int.reduceEq, Int.reduceNe, Option.map_some, Option.map_none, Option.bind_some, Option.bind_none, decide_not, ne_eq, not_true_eq_false, not_false_eq_true, reduceCtorEq, and_self, nc0, nc1, nc2, nc3, nc4, nc5, nc6, f_is_ratio, m_is_ratio]
theorem isr_t1 (x : PD) : f_is_ratio [.tup [x]] [] = .ok (.bl false) [] := by simp only [runF, entry, initE, fin, finR, frz_p, frz_ref, frzW_nil, frzW_p, frzW_ref, frzW_map, contN, cont, pds, pds_map, mb, eb, sSeq, sSet, sRet, sRetN, sIf, sNext, sExpr, sBreak, sCont, mVar, mC, mCons, mNil, mTup, fTup, mLst, fLst, mBin, mUn, mCB, mTest, mTru, truF, mAndT, mOrT, mNotT, mAnd, mOr, mNot, mIf, mChain, map_p_nil, map_p_cons, deepV_p, okq_non, okq_bl, okq_int, okq_str, okq_tup, okq_lst, okqs_nil, okqs_cons, fEq_ii, fNe_ii, fEq_ss, fNe_ss, at0, at1, at2, at3, at4, seqOf_tup, seqOf_lst, seqOf_ref, listOf_lst, listOf_ref, fIx_tup, fIx_lst, fIx_ref, ix10, ix20, ix21, ix30, ix31, ix32, ix40, ix41, ix42, ix43, ix50, ix51, ix52, ix53, ix54, ix60, ix61, ix62, ix63, ix64, ix65, ix70, ix71, ix72, ix73, ix74, ix75, ix76, ix80, ix81, ix82, ix83, ix84, ix85, ix86, ix87, fI, fSub, fDiv, fMod, fPow, fNeg, fLt, fLe, fGt, fGe, fOrd, fGcd, fAbs, fInt, fLen, fStr, fIs, fIsNot, isNon, fAdd, fMul, fIsi, tyOfD, tyNm, fAppend, mBM, mBM0, isL, DL.listOf, sSetItem, fSetItem, sPar, sAsg, tgName, tgTup, tgNil, tgCons, kit_ii, kit_bi, kit_ni, kit_si, kit_ti, kit_li, kit_ib, kit_bb, kit_nb, kit_sb, kit_tb, kit_lb, kit_it, kit_bt, kit_nt, kit_st, kit_tt, kit_lt, kit_is, kit_bs, kit_ns, kit_ss, kit_ts, kit_ls, kit_il, kit_bl, kit_nl, kit_sl, kit_tl, kit_ll, mCall, mCallD, callF, pass_nil, pass_p, pass_f, pass_m, callR, nodupB, setCells, yes2, line, range_1, range_2, List.length_cons, List.length_nil, List.getElem?_cons_zero, List.getElem?_cons_succ, List.map_cons, List.map_nil, List.replicate_zero, List.replicate_succ, List.range_zero, List.set_cons_zero, List.set_cons_succ, List.append_nil, List.nil_append, List.cons_append, List.contains_nil, if_true, if_false, ite_true, ite_false, reduceIte, Bool.and_true, Bool.true_and, Bool.not_true, Bool.not_false, Bool.false_and, Bool.and_false, decide_true, decide_false, Nat.reduceLeDiff, Nat.reduceSub, Nat.reduceAdd, Nat.reduceLT, Int.reduceLT, Int.reduceLE, Int.reduceEq, Int.reduceNe, Option.map_some, Option.map_none, Option.bind_some, Option.bind_none, decide_not, ne_eq, not_true_eq_false, not_false_eq_true, reduceCtorEq, and_self, nc0, nc1, nc2, nc3, nc4, nc5, nc6, f_is_ratio, m_is_ratio]
theorem isr_t3 (x y z : PD) : f_is_ratio [.tup [x, y, z]] [] = .ok (.bl false) [] := by simp only [runF, entry, initE, fin, finR, frz_p, frz_ref, frzW_nil, frzW_p, frzW_ref, frzW_map, contN, cont, pds, pds_map, mb, eb, sSeq, sSet, sRet, sRetN, sIf, sNext, sExpr, sBreak, sCont, mVar, mC, mCons, mNil, mTup, fTup, mLst, fLst, mBin, mUn, mCB, mTest, mTru, truF, mAndT, mOrT, mNotT, mAnd, mOr, mNot, mIf, mChain, map_p_nil, map_p_cons, deepV_p, okq_non, okq_bl, okq_int, okq_str, okq_tup, okq_lst, okqs_nil, okqs_cons, fEq_ii, fNe_ii, fEq_ss, fNe_ss, at0, at1, at2, at3, at4, seqOf_tup, seqOf_lst, seqOf_ref, listOf_lst, listOf_ref, fIx_tup, fIx_lst, fIx_ref, ix10, ix20, ix21, ix30, ix31, ix32, ix40, ix41, ix42, ix43, ix50, ix51, ix52, ix53, ix54, ix60, ix61, ix62, ix63, ix64, ix65, ix70, ix71, ix72, ix73, ix74, ix75, ix76, ix80, ix81, ix82, ix83, ix84, ix85, ix86, ix87, fI, fSub, fDiv, fMod, fPow, fNeg, fLt, fLe, fGt, fGe, fOrd, fGcd, fAbs, fInt, fLen, fStr, fIs, fIsNot, isNon, fAdd, fMul, fIsi, tyOfD, tyNm, fAppend, mBM, mBM0, isL, DL.listOf, sSetItem, fSetItem, sPar, sAsg, tgName, tgTup, tgNil, tgCons, kit_ii, kit_bi, kit_ni, kit_si, kit_ti, kit_li, kit_ib, kit_bb, kit_nb, kit_sb, kit_tb, kit_lb, kit_it, kit_bt, kit_nt, kit_st, kit_tt, kit_lt, kit_is, kit_bs, kit_ns, kit_ss, kit_ts, kit_ls, kit_il, kit_bl, kit_nl, kit_sl, kit_tl, kit_ll, mCall, mCallD, callF, pass_nil, pass_p, pass_f, pass_m, callR, nodupB, setCells, yes2, line, range_1, range_2, List.length_cons, List.length_nil, List.getElem?_cons_zero, List.getElem?_cons_succ, List.map_cons, List.map_nil, List.replicate_zero, List.replicate_succ, List.range_zero, List.set_cons_zero, List.set_cons_succ, List.append_nil, List.nil_append, List.cons_append, List.contains_nil, if_true, if_false, ite_true, ite_false, reduceIte, Bool.and_true, Bool.true_and, Bool.not_true, Bool.not_false, Bool.false_and, Bool.and_false, decide_true, decide_false, Nat.reduceLeDiff, Nat.reduceSub, Nat.reduceAdd, Nat.reduceLT, Int.reduceLT, Int.reduceLE, Int.reduceEq, Int.reduceNe, Option.map_some, Option.map_none, Option.bind_some, Option.bind_none, decide_not, ne_eq, not_true_eq_false, not_false_eq_true, reduceCtorEq, and_self, nc0, nc1, nc2, nc3, nc4, nc5, nc6, f_is_ratio, m_is_ratio]
theorem isr_o1 (x y : PD) (h : odd x = true) : f_is_ratio [.tup [x, y]] [] = .ok (.bl false) [] := by simp only [runF, entry, initE, fin, finR, frz_p, frz_ref, frzW_nil, frzW_p, frzW_ref, frzW_map, contN, cont, pds, pds_map, mb, eb, sSeq, sSet, sRet, sRetN, sIf, sNext, sExpr, sBreak, sCont, mVar, mC, mCons, mNil, mTup, fTup, mLst, fLst, mBin, mUn, mCB, mTest, mTru, truF, mAndT, mOrT, mNotT, mAnd, mOr, mNot, mIf, mChain, map_p_nil, map_p_cons, deepV_p, okq_non, okq_bl, okq_int, okq_str, okq_tup, okq_lst, okqs_nil, okqs_cons, fEq_ii, fNe_ii, fEq_ss, fNe_ss, at0, at1, at2, at3, at4, seqOf_tup, seqOf_lst, seqOf_ref, listOf_lst, listOf_ref, fIx_tup, fIx_lst, fIx_ref, ix10, ix20, ix21, ix30, ix31, ix32, ix40, ix41, ix42, ix43, ix50, ix51, ix52, ix53, ix54, ix60, ix61, ix62, ix63, ix64, ix65, ix70, ix71, ix72, ix73, ix74, ix75, ix76, ix80, ix81, ix82, ix83, ix84, ix85, ix86, ix87, fI, fSub, fDiv, fMod, fPow, fNeg, fLt, fLe, fGt, fGe, fOrd, fGcd, fAbs, fInt, fLen, fStr, fIs, fIsNot, isNon, fAdd, fMul, fIsi, tyOfD, tyNm, fAppend, mBM, mBM0, isL, DL.listOf, sSetItem, fSetItem, sPar, sAsg, tgName, tgTup, tgNil, tgCons, kit_ii, kit_bi, kit_ni, kit_si, kit_ti, kit_li, kit_ib, kit_bb, kit_nb, kit_sb, kit_tb, kit_lb, kit_it, kit_bt, kit_nt, kit_st, kit_tt, kit_lt, kit_is, kit_bs, kit_ns, kit_ss, kit_ts, kit_ls, kit_il, kit_bl, kit_nl, kit_sl, kit_tl, kit_ll, mCall, mCallD, callF, pass_nil, pass_p, pass_f, pass_m, callR, nodupB, setCells, yes2, line, range_1, range_2, List.length_cons, List.length_nil, List.getElem?_cons_zero, List.getElem?_cons_succ, List.map_cons, List.map_nil, List.replicate_zero, List.replicate_succ, List.range_zero, List.set_cons_zero, List.set_cons_succ, List.append_nil, List.nil_append, List.cons_append, List.contains_nil, if_true, if_false, ite_true, ite_false, reduceIte, Bool.and_true, Bool.true_and, Bool.not_true, Bool.not_false, Bool.false_and, Bool.and_false, decide_true, decide_false, Nat.reduceLeDiff, Nat.reduceSub, Nat.reduceAdd, Nat.reduceLT, Int.reduceLT, Int.reduceLE, Int.reduceEq, Int.reduceNe, Option.map_some, Option.map_none, Option.bind_some, Option.bind_none, decide_not, ne_eq, not_true_eq_false, not_false_eq_true, reduceCtorEq, and_self, nc0, nc1, nc2, nc3, nc4, nc5, nc6, f_is_ratio, m_is_ratio, whole_odd x _ _ h]
theorem isr_o2 (a : Int) (y : PD) (h : odd y = true) : f_is_ratio [.tup [.int a, y]] [] = .ok (.bl false) [] := by simp only [runF, entry, initE, fin, finR, frz_p, frz_ref, frzW_nil, frzW_p, frzW_ref, frzW_map, contN, cont, pds, pds_map, mb, eb, sSeq, sSet, sRet, sRetN, sIf, sNext, sExpr, sBreak, sCont, mVar, mC, mCons, mNil, mTup, fTup, mLst, fLst, mBin, mUn, mCB, mTest, mTru, truF, mAndT, mOrT, mNotT, mAnd, mOr, mNot, mIf, mChain, map_p_nil, map_p_cons, deepV_p, okq_non, okq_bl, okq_int, okq_str, okq_tup, okq_lst, okqs_nil, okqs_cons, fEq_ii, fNe_ii, fEq_ss, fNe_ss, at0, at1, at2, at3, at4, seqOf_tup, seqOf_lst, seqOf_ref, listOf_lst, listOf_ref, fIx_tup, fIx_lst, fIx_ref, ix10, ix20, ix21, ix30, ix31, ix32, ix40, ix41, ix42, ix43, ix50, ix51, ix52, ix53, ix54, ix60, ix61, ix62, ix63, ix64, ix65, ix70, ix71, ix72, ix73, ix74, ix75, ix76, ix80, ix81, ix82, ix83, ix84, ix85, ix86, ix87, fI, fSub, fDiv, fMod, fPow, fNeg, fLt, fLe, fGt, fGe, fOrd, fGcd, fAbs, fInt, fLen, fStr, fIs, fIsNot, isNon, fAdd, fMul, fIsi, tyOfD, tyNm, fAppend, mBM, mBM0, isL, DL.listOf, sSetItem, fSetItem, sPar, sAsg, tgName, tgTup, tgNil, tgCons, kit_ii, kit_bi, kit_ni, kit_si, kit_ti, kit_li, kit_ib, kit_bb, kit_nb, kit_sb, kit_tb, kit_lb, kit_it, kit_bt, kit_nt, kit_st, kit_tt, kit_lt, kit_is, kit_bs, kit_ns, kit_ss, kit_ts, kit_ls, kit_il, kit_bl, kit_nl, kit_sl, kit_tl, kit_ll, mCall, mCallD, callF, pass_nil, pass_p, pass_f, pass_m, callR, nodupB, setCells, yes2, line, range_1, range_2, List.length_cons, List.length_nil, List.getElem?_cons_zero, List.getElem?_cons_succ, List.map_cons, List.map_nil, List.replicate_zero, List.replicate_succ, List.range_zero, List.set_cons_zero, List.set_cons_succ, List.append_nil, List.nil_append, List.cons_append, List.contains_nil, if_true, if_false, ite_true, ite_false, reduceIte, Bool.and_true, Bool.true_and, Bool.not_true, Bool.not_false, Bool.false_and, Bool.and_false, decide_true, decide_false, Nat.reduceLeDiff, Nat.reduceSub, Nat.reduceAdd, Nat.reduceLT, Int.reduceLT, Int.reduceLE, Int.reduceEq, Int.reduceNe, Option.map_some, Option.map_none, Option.bind_some, Option.bind_none, decide_not, ne_eq, not_true_eq_false, not_false_eq_true, reduceCtorEq, and_self, nc0, nc1, nc2, nc3, nc4, nc5, nc6, f_is_ratio, m_is_ratio, whole_int, whole_odd y _ _ h]
theorem told_eq (b : Bool) : f__law_told [.bl b, .bl b] [] = .ok (.bl true) [] := by
  cases b <;> simp only [runF, entry, initE, fin, finR, frz_p, frz_ref, frzW_nil, frzW_p, frzW_ref, frzW_map, contN, cont, pds, pds_map, mb, eb, sSeq, sSet, sRet, sRetN, sIf, sNext, sExpr, sBreak, sCont, mVar, mC, mCons, mNil, mTup, fTup, mLst, fLst, mBin, mUn, mCB, mTest, mTru, truF, mAndT, mOrT, mNotT, mAnd, mOr, mNot, mIf, mChain, map_p_nil, map_p_cons, deepV_p, okq_non, okq_bl, okq_int, okq_str, okq_tup, okq_lst, okqs_nil, okqs_cons, fEq_ii, fNe_ii, fEq_ss, fNe_ss, at0, at1, at2, at3, at4, seqOf_tup, seqOf_lst, seqOf_ref, listOf_lst, listOf_ref, fIx_tup, fIx_lst, fIx_ref, ix10, ix20, ix21, ix30, ix31, ix32, ix40, ix41, ix42, ix43, ix50, ix51, ix52, ix53, ix54, ix60, ix61, ix62, ix63, ix64, ix65, ix70, ix71, ix72, ix73, ix74, ix75, ix76, ix80, ix81, ix82, ix83, ix84, ix85, ix86, ix87, fI, fSub, fDiv, fMod, fPow, fNeg, fLt, fLe, fGt, fGe, fOrd, fGcd, fAbs, fInt, fLen, fStr, fIs, fIsNot, isNon, fAdd, fMul, fIsi, tyOfD, tyNm, fAppend, mBM, mBM0, isL, DL.listOf, sSetItem, fSetItem, sPar, sAsg, tgName, tgTup, tgNil, tgCons, kit_ii, kit_bi, kit_ni, kit_si, kit_ti, kit_li, kit_ib, kit_bb, kit_nb, kit_sb, kit_tb, kit_lb, kit_it, kit_bt, kit_nt, kit_st, kit_tt, kit_lt, kit_is, kit_bs, kit_ns, kit_ss, kit_ts, kit_ls, kit_il, kit_bl, kit_nl, kit_sl, kit_tl, kit_ll, mCall, mCallD, callF, pass_nil, pass_p, pass_f, pass_m, callR, nodupB, setCells, yes2, line, range_1, range_2, List.length_cons, List.length_nil, List.getElem?_cons_zero, List.getElem?_cons_succ, List.map_cons, List.map_nil, List.replicate_zero, List.replicate_succ, List.range_zero, List.set_cons_zero, List.set_cons_succ, List.append_nil, List.nil_append, List.cons_append, List.contains_nil, if_true, if_false, ite_true, ite_false, reduceIte, Bool.and_true, Bool.true_and, Bool.not_true, Bool.not_false, Bool.false_and, Bool.and_false, decide_true, decide_false, Nat.reduceLeDiff, Nat.reduceSub, Nat.reduceAdd, Nat.reduceLT, Int.reduceLT, Int.reduceLE, Int.reduceEq, Int.reduceNe, Option.map_some, Option.map_none, Option.bind_some, Option.bind_none, decide_not, ne_eq, not_true_eq_false, not_false_eq_true, reduceCtorEq, and_self, nc0, nc1, nc2, nc3, nc4, nc5, nc6, f__law_told, m__law_told]
theorem lisr_eq (a b : Int) : f__law_is_ratio [.tup [.int a, .int b]] [] = .ok (.bl true) [] := by
  have hc := mLc_map (mi := mItt (mVar 0)) (f := tgName 1) (e := e1__law_is_ratio) (g := fun _ => .bl true) (vs := [1]) (s := ⟨[some (.p (.tup [.int a, .int b])), none], [], none⟩) (s1 := ⟨[some (.p (.tup [.int a, .int b])), none], [], none⟩) (ds := [.int a, .int b])
    (by simp only [runF, entry, initE, fin, finR, frz_p, frz_ref, frzW_nil, frzW_p, frzW_ref, frzW_map, contN, cont, pds, pds_map, mb, eb, sSeq, sSet, sRet, sRetN, sIf, sNext, sExpr, sBreak, sCont, mVar, mC, mCons, mNil, mTup, fTup, mLst, fLst, mBin, mUn, mCB, mTest, mTru, truF, mAndT, mOrT, mNotT, mAnd, mOr, mNot, mIf, mChain, map_p_nil, map_p_cons, deepV_p, okq_non, okq_bl, okq_int, okq_str, okq_tup, okq_lst, okqs_nil, okqs_cons, fEq_ii, fNe_ii, fEq_ss, fNe_ss, at0, at1, at2, at3, at4, seqOf_tup, seqOf_lst, seqOf_ref, listOf_lst, listOf_ref, fIx_tup, fIx_lst, fIx_ref, ix10, ix20, ix21, ix30, ix31, ix32, ix40, ix41, ix42, ix43, ix50, ix51, ix52, ix53, ix54, ix60, ix61, ix62, ix63, ix64, ix65, ix70, ix71, ix72, ix73, ix74, ix75, ix76, ix80, ix81, ix82, ix83, ix84, ix85, ix86, ix87, fI, fSub, fDiv, fMod, fPow, fNeg, fLt, fLe, fGt, fGe, fOrd, fGcd, fAbs, fInt, fLen, fStr, fIs, fIsNot, isNon, fAdd, fMul, fIsi, tyOfD, tyNm, fAppend, mBM, mBM0, isL, DL.listOf, sSetItem, fSetItem, sPar, sAsg, tgName, tgTup, tgNil, tgCons, kit_ii, kit_bi, kit_ni, kit_si, kit_ti, kit_li, kit_ib, kit_bb, kit_nb, kit_sb, kit_tb, kit_lb, kit_it, kit_bt, kit_nt, kit_st, kit_tt, kit_lt, kit_is, kit_bs, kit_ns, kit_ss, kit_ts, kit_ls, kit_il, kit_bl, kit_nl, kit_sl, kit_tl, kit_ll, mCall, mCallD, callF, pass_nil, pass_p, pass_f, pass_m, callR, nodupB, setCells, yes2, line, range_1, range_2, List.length_cons, List.length_nil, List.getElem?_cons_zero, List.getElem?_cons_succ, List.map_cons, List.map_nil, List.replicate_zero, List.replicate_succ, List.range_zero, List.set_cons_zero, List.set_cons_succ, List.append_nil, List.nil_append, List.cons_append, List.contains_nil, if_true, if_false, ite_true, ite_false, reduceIte, Bool.and_true, Bool.true_and, Bool.not_true, Bool.not_false, Bool.false_and, Bool.and_false, decide_true, decide_false, Nat.reduceLeDiff, Nat.reduceSub, Nat.reduceAdd, Nat.reduceLT, Int.reduceLT, Int.reduceLE, Int.reduceEq, Int.reduceNe, Option.map_some, Option.map_none, Option.bind_some, Option.bind_none, decide_not, ne_eq, not_true_eq_false, not_false_eq_true, reduceCtorEq, and_self, nc0, nc1, nc2, nc3, nc4, nc5, nc6, mItt]) rfl (by
      intro d hd acc
      obtain ⟨n, rfl⟩ : ∃ n : Int, d = .int n := by
        simp only [List.mem_cons, List.mem_nil_iff, or_false] at hd
        rcases hd with rfl | rfl
        · exact ⟨_, rfl⟩
        · exact ⟨_, rfl⟩
      refine ⟨[some (.p (.tup [.int a, .int b])), some (.p (.int n))], [some (.p (.tup [.int a, .int b])), some (.p (.int n))], rfl, ?_⟩
      simp only [runF, entry, initE, fin, finR, frz_p, frz_ref, frzW_nil, frzW_p, frzW_ref, frzW_map, contN, cont, pds, pds_map, mb, eb, sSeq, sSet, sRet, sRetN, sIf, sNext, sExpr, sBreak, sCont, mVar, mC, mCons, mNil, mTup, fTup, mLst, fLst, mBin, mUn, mCB, mTest, mTru, truF, mAndT, mOrT, mNotT, mAnd, mOr, mNot, mIf, mChain, map_p_nil, map_p_cons, deepV_p, okq_non, okq_bl, okq_int, okq_str, okq_tup, okq_lst, okqs_nil, okqs_cons, fEq_ii, fNe_ii, fEq_ss, fNe_ss, at0, at1, at2, at3, at4, seqOf_tup, seqOf_lst, seqOf_ref, listOf_lst, listOf_ref, fIx_tup, fIx_lst, fIx_ref, ix10, ix20, ix21, ix30, ix31, ix32, ix40, ix41, ix42, ix43, ix50, ix51, ix52, ix53, ix54, ix60, ix61, ix62, ix63, ix64, ix65, ix70, ix71, ix72, ix73, ix74, ix75, ix76, ix80, ix81, ix82, ix83, ix84, ix85, ix86, ix87, fI, fSub, fDiv, fMod, fPow, fNeg, fLt, fLe, fGt, fGe, fOrd, fGcd, fAbs, fInt, fLen, fStr, fIs, fIsNot, isNon, fAdd, fMul, fIsi, tyOfD, tyNm, fAppend, mBM, mBM0, isL, DL.listOf, sSetItem, fSetItem, sPar, sAsg, tgName, tgTup, tgNil, tgCons, kit_ii, kit_bi, kit_ni, kit_si, kit_ti, kit_li, kit_ib, kit_bb, kit_nb, kit_sb, kit_tb, kit_lb, kit_it, kit_bt, kit_nt, kit_st, kit_tt, kit_lt, kit_is, kit_bs, kit_ns, kit_ss, kit_ts, kit_ls, kit_il, kit_bl, kit_nl, kit_sl, kit_tl, kit_ll, mCall, mCallD, callF, pass_nil, pass_p, pass_f, pass_m, callR, nodupB, setCells, yes2, line, range_1, range_2, List.length_cons, List.length_nil, List.getElem?_cons_zero, List.getElem?_cons_succ, List.map_cons, List.map_nil, List.replicate_zero, List.replicate_succ, List.range_zero, List.set_cons_zero, List.set_cons_succ, List.append_nil, List.nil_append, List.cons_append, List.contains_nil, if_true, if_false, ite_true, ite_false, reduceIte, Bool.and_true, Bool.true_and, Bool.not_true, Bool.not_false, Bool.false_and, Bool.and_false, decide_true, decide_false, Nat.reduceLeDiff, Nat.reduceSub, Nat.reduceAdd, Nat.reduceLT, Int.reduceLT, Int.reduceLE, Int.reduceEq, Int.reduceNe, Option.map_some, Option.map_none, Option.bind_some, Option.bind_none, decide_not, ne_eq, not_true_eq_false, not_false_eq_true, reduceCtorEq, and_self, nc0, nc1, nc2, nc3, nc4, nc5, nc6, e1__law_is_ratio]) (show 2 ≤ line by unfold line; decide)
  have hc' : l1__law_is_ratio ⟨[some (.p (.tup [.int a, .int b])), none], [], none⟩ = .ok (.ref 0) ⟨[some (.p (.tup [.int a, .int b])), none], [.lst [.p (.bl true), .p (.bl true)]], none⟩ := hc
  simp only [runF, entry, initE, fin, finR, frz_p, frz_ref, frzW_nil, frzW_p, frzW_ref, frzW_map, contN, cont, pds, pds_map, mb, eb, sSeq, sSet, sRet, sRetN, sIf, sNext, sExpr, sBreak, sCont, mVar, mC, mCons, mNil, mTup, fTup, mLst, fLst, mBin, mUn, mCB, mTest, mTru, truF, mAndT, mOrT, mNotT, mAnd, mOr, mNot, mIf, mChain, map_p_nil, map_p_cons, deepV_p, okq_non, okq_bl, okq_int, okq_str, okq_tup, okq_lst, okqs_nil, okqs_cons, fEq_ii, fNe_ii, fEq_ss, fNe_ss, at0, at1, at2, at3, at4, seqOf_tup, seqOf_lst, seqOf_ref, listOf_lst, listOf_ref, fIx_tup, fIx_lst, fIx_ref, ix10, ix20, ix21, ix30, ix31, ix32, ix40, ix41, ix42, ix43, ix50, ix51, ix52, ix53, ix54, ix60, ix61, ix62, ix63, ix64, ix65, ix70, ix71, ix72, ix73, ix74, ix75, ix76, ix80, ix81, ix82, ix83, ix84, ix85, ix86, ix87, fI, fSub, fDiv, fMod, fPow, fNeg, fLt, fLe, fGt, fGe, fOrd, fGcd, fAbs, fInt, fLen, fStr, fIs, fIsNot, isNon, fAdd, fMul, fIsi, tyOfD, tyNm, fAppend, mBM, mBM0, isL, DL.listOf, sSetItem, fSetItem, sPar, sAsg, tgName, tgTup, tgNil, tgCons, kit_ii, kit_bi, kit_ni, kit_si, kit_ti, kit_li, kit_ib, kit_bb, kit_nb, kit_sb, kit_tb, kit_lb, kit_it, kit_bt, kit_nt, kit_st, kit_tt, kit_lt, kit_is, kit_bs, kit_ns, kit_ss, kit_ts, kit_ls, kit_il, kit_bl, kit_nl, kit_sl, kit_tl, kit_ll, mCall, mCallD, callF, pass_nil, pass_p, pass_f, pass_m, callR, nodupB, setCells, yes2, line, range_1, range_2, List.length_cons, List.length_nil, List.getElem?_cons_zero, List.getElem?_cons_succ, List.map_cons, List.map_nil, List.replicate_zero, List.replicate_succ, List.range_zero, List.set_cons_zero, List.set_cons_succ, List.append_nil, List.nil_append, List.cons_append, List.contains_nil, if_true, if_false, ite_true, ite_false, reduceIte, Bool.and_true, Bool.true_and, Bool.not_true, Bool.not_false, Bool.false_and, Bool.and_false, decide_true, decide_false, Nat.reduceLeDiff, Nat.reduceSub, Nat.reduceAdd, Nat.reduceLT, Int.reduceLT, Int.reduceLE, Int.reduceEq, Int.reduceNe, Option.map_some, Option.map_none, Option.bind_some, Option.bind_none, decide_not, ne_eq, not_true_eq_false, not_false_eq_true, reduceCtorEq, and_self, nc0, nc1, nc2, nc3, nc4, nc5, nc6, f__law_is_ratio, m__law_is_ratio, hc', fAll, bools]
  rfl
end K01
namespace K01
open PySem PySem.Spec L2 DL
def why (x y : Str) : PD := .tup [.str x, .str y]
theorem ne_rt (s : DS) : fNe (.p (.tup [.str "refused", .str "top"])) (.p (.tup [.str "refused", .str "top"])) s = .ok (.p (.bl false)) s := fNe_same _ _ (by decide +kernel) (by decide +kernel)
theorem ne_rb (s : DS) : fNe (.p (.tup [.str "refused", .str "bottom"])) (.p (.tup [.str "refused", .str "bottom"])) s = .ok (.p (.bl false)) s := fNe_same _ _ (by decide +kernel) (by decide +kernel)
theorem eq_rb (s : DS) : fEq (.p (.tup [.str "refused", .str "bottom"])) (.p (.tup [.str "refused", .str "bottom"])) s = .ok (.p (.bl true)) s := fEq_same _ _ (by decide +kernel) (by decide +kernel)
theorem eq_made (s : DS) (p : Int × Int) : fEq (.p (.tup [.str "made", rat p])) (.p (.tup [.str "made", rat p])) s = .ok (.p (.bl true)) s := fEq_same _ _ (by
  unfold rat
  simp only [okq_tup, okqs_cons, okq_int, okqs_nil, okq_str]
  decide +kernel) (by simp [rat, PD.nb, PD.nbs])
theorem lmade_zero (a : Int) : f__law_made [.int a, .int 0] [] = .ok (.tup [.str "refused", .str "bottom"]) [] := lmade_exc (make_zero a)
theorem lmade_top (x y : PD) (h : odd x = true) : f__law_made [x, y] [] = .ok (.tup [.str "refused", .str "top"]) [] := lmade_exc (make_top x y h)
theorem lmade_bottom (a : Int) (y : PD) (h : odd y = true) : f__law_made [.int a, y] [] = .ok (.tup [.str "refused", .str "bottom"]) [] := lmade_exc (make_bottom a y h)
theorem madeR_eq {a b : Int} (hb : Sm 4000 b) : f__law_made_rightly [.int a, .int b] [] = .ok (.bl true) [] := by
  by_cases h : b = 0
  · subst h
    simp only [runF, entry, initE, fin, finR, frz_p, frz_ref, frzW_nil, frzW_p, frzW_ref, frzW_map, contN, cont, pds, pds_map, mb, eb, sSeq, sSet, sRet, sRetN, sIf, sNext, sExpr, sBreak, sCont, mVar, mC, mCons, mNil, mTup, fTup, mLst, fLst, mBin, mUn, mCB, mTest, mTru, truF, mAndT, mOrT, mNotT, mAnd, mOr, mNot, mIf, mChain, map_p_nil, map_p_cons, deepV_p, okq_non, okq_bl, okq_int, okq_str, okq_tup, okq_lst, okqs_nil, okqs_cons, fEq_ii, fNe_ii, fEq_ss, fNe_ss, at0, at1, at2, at3, at4, seqOf_tup, seqOf_lst, seqOf_ref, listOf_lst, listOf_ref, fIx_tup, fIx_lst, fIx_ref, ix10, ix20, ix21, ix30, ix31, ix32, ix40, ix41, ix42, ix43, ix50, ix51, ix52, ix53, ix54, ix60, ix61, ix62, ix63, ix64, ix65, ix70, ix71, ix72, ix73, ix74, ix75, ix76, ix80, ix81, ix82, ix83, ix84, ix85, ix86, ix87, fI, fSub, fDiv, fMod, fPow, fNeg, fLt, fLe, fGt, fGe, fOrd, fGcd, fAbs, fInt, fLen, fStr, fIs, fIsNot, isNon, fAdd, fMul, fIsi, tyOfD, tyNm, fAppend, mBM, mBM0, isL, DL.listOf, sSetItem, fSetItem, sPar, sAsg, tgName, tgTup, tgNil, tgCons, kit_ii, kit_bi, kit_ni, kit_si, kit_ti, kit_li, kit_ib, kit_bb, kit_nb, kit_sb, kit_tb, kit_lb, kit_it, kit_bt, kit_nt, kit_st, kit_tt, kit_lt, kit_is, kit_bs, kit_ns, kit_ss, kit_ts, kit_ls, kit_il, kit_bl, kit_nl, kit_sl, kit_tl, kit_ll, mCall, mCallD, callF, pass_nil, pass_p, pass_f, pass_m, callR, nodupB, setCells, yes2, line, range_1, range_2, List.length_cons, List.length_nil, List.getElem?_cons_zero, List.getElem?_cons_succ, List.map_cons, List.map_nil, List.replicate_zero, List.replicate_succ, List.range_zero, List.set_cons_zero, List.set_cons_succ, List.append_nil, List.nil_append, List.cons_append, List.contains_nil, if_true, if_false, ite_true, ite_false, reduceIte, Bool.and_true, Bool.true_and, Bool.not_true, Bool.not_false, Bool.false_and, Bool.and_false, decide_true, decide_false, Nat.reduceLeDiff, Nat.reduceSub, Nat.reduceAdd, Nat.reduceLT, Int.reduceLT, Int.reduceLE, Int.reduceEq, Int.reduceNe, Option.map_some, Option.map_none, Option.bind_some, Option.bind_none, decide_not, ne_eq, not_true_eq_false, not_false_eq_true, reduceCtorEq, and_self, nc0, nc1, nc2, nc3, nc4, nc5, nc6, f__law_made_rightly, m__law_made_rightly, lmade_zero, eq_rb]
  · have e : f__law_is_ratio [rat (low a b)] [] = .ok (.bl true) [] := lisr_eq _ _
    simp only [runF, entry, initE, fin, finR, frz_p, frz_ref, frzW_nil, frzW_p, frzW_ref, frzW_map, contN, cont, pds, pds_map, mb, eb, sSeq, sSet, sRet, sRetN, sIf, sNext, sExpr, sBreak, sCont, mVar, mC, mCons, mNil, mTup, fTup, mLst, fLst, mBin, mUn, mCB, mTest, mTru, truF, mAndT, mOrT, mNotT, mAnd, mOr, mNot, mIf, mChain, map_p_nil, map_p_cons, deepV_p, okq_non, okq_bl, okq_int, okq_str, okq_tup, okq_lst, okqs_nil, okqs_cons, fEq_ii, fNe_ii, fEq_ss, fNe_ss, at0, at1, at2, at3, at4, seqOf_tup, seqOf_lst, seqOf_ref, listOf_lst, listOf_ref, fIx_tup, fIx_lst, fIx_ref, ix10, ix20, ix21, ix30, ix31, ix32, ix40, ix41, ix42, ix43, ix50, ix51, ix52, ix53, ix54, ix60, ix61, ix62, ix63, ix64, ix65, ix70, ix71, ix72, ix73, ix74, ix75, ix76, ix80, ix81, ix82, ix83, ix84, ix85, ix86, ix87, fI, fSub, fDiv, fMod, fPow, fNeg, fLt, fLe, fGt, fGe, fOrd, fGcd, fAbs, fInt, fLen, fStr, fIs, fIsNot, isNon, fAdd, fMul, fIsi, tyOfD, tyNm, fAppend, mBM, mBM0, isL, DL.listOf, sSetItem, fSetItem, sPar, sAsg, tgName, tgTup, tgNil, tgCons, kit_ii, kit_bi, kit_ni, kit_si, kit_ti, kit_li, kit_ib, kit_bb, kit_nb, kit_sb, kit_tb, kit_lb, kit_it, kit_bt, kit_nt, kit_st, kit_tt, kit_lt, kit_is, kit_bs, kit_ns, kit_ss, kit_ts, kit_ls, kit_il, kit_bl, kit_nl, kit_sl, kit_tl, kit_ll, mCall, mCallD, callF, pass_nil, pass_p, pass_f, pass_m, callR, nodupB, setCells, yes2, line, range_1, range_2, List.length_cons, List.length_nil, List.getElem?_cons_zero, List.getElem?_cons_succ, List.map_cons, List.map_nil, List.replicate_zero, List.replicate_succ, List.range_zero, List.set_cons_zero, List.set_cons_succ, List.append_nil, List.nil_append, List.cons_append, List.contains_nil, if_true, if_false, ite_true, ite_false, reduceIte, Bool.and_true, Bool.true_and, Bool.not_true, Bool.not_false, Bool.false_and, Bool.and_false, decide_true, decide_false, Nat.reduceLeDiff, Nat.reduceSub, Nat.reduceAdd, Nat.reduceLT, Int.reduceLT, Int.reduceLE, Int.reduceEq, Int.reduceNe, Option.map_some, Option.map_none, Option.bind_some, Option.bind_none, decide_not, ne_eq, not_true_eq_false, not_false_eq_true, reduceCtorEq, and_self, nc0, nc1, nc2, nc3, nc4, nc5, nc6, f__law_made_rightly, m__law_made_rightly, h, lmade_ok h hb, lratio_eq h hb, eq_made, e]
theorem odd_body {a b : Int} {x : PD} (L y : Option D) (cs : List Cell) (h : odd x = true) (hr : f_is_ratio [x] [] = .ok (.bl false) []) : b1__law_odd_rightly ⟨[some (.p (.int a)), some (.p (.int b)), L, some (.p x), y], cs, none⟩ = .nx ⟨[some (.p (.int a)), some (.p (.int b)), L, some (.p x), y], cs, none⟩ := by
  simp only [runF, entry, initE, fin, finR, frz_p, frz_ref, frzW_nil, frzW_p, frzW_ref, frzW_map, contN, cont, pds, pds_map, mb, eb, sSeq, sSet, sRet, sRetN, sIf, sNext, sExpr, sBreak, sCont, mVar, mC, mCons, mNil, mTup, fTup, mLst, fLst, mBin, mUn, mCB, mTest, mTru, truF, mAndT, mOrT, mNotT, mAnd, mOr, mNot, mIf, mChain, map_p_nil, map_p_cons, deepV_p, okq_non, okq_bl, okq_int, okq_str, okq_tup, okq_lst, okqs_nil, okqs_cons, fEq_ii, fNe_ii, fEq_ss, fNe_ss, at0, at1, at2, at3, at4, seqOf_tup, seqOf_lst, seqOf_ref, listOf_lst, listOf_ref, fIx_tup, fIx_lst, fIx_ref, ix10, ix20, ix21, ix30, ix31, ix32, ix40, ix41, ix42, ix43, ix50, ix51, ix52, ix53, ix54, ix60, ix61, ix62, ix63, ix64, ix65, ix70, ix71, ix72, ix73, ix74, ix75, ix76, ix80, ix81, ix82, ix83, ix84, ix85, ix86, ix87, fI, fSub, fDiv, fMod, fPow, fNeg, fLt, fLe, fGt, fGe, fOrd, fGcd, fAbs, fInt, fLen, fStr, fIs, fIsNot, isNon, fAdd, fMul, fIsi, tyOfD, tyNm, fAppend, mBM, mBM0, isL, DL.listOf, sSetItem, fSetItem, sPar, sAsg, tgName, tgTup, tgNil, tgCons, kit_ii, kit_bi, kit_ni, kit_si, kit_ti, kit_li, kit_ib, kit_bb, kit_nb, kit_sb, kit_tb, kit_lb, kit_it, kit_bt, kit_nt, kit_st, kit_tt, kit_lt, kit_is, kit_bs, kit_ns, kit_ss, kit_ts, kit_ls, kit_il, kit_bl, kit_nl, kit_sl, kit_tl, kit_ll, mCall, mCallD, callF, pass_nil, pass_p, pass_f, pass_m, callR, nodupB, setCells, yes2, line, range_1, range_2, List.length_cons, List.length_nil, List.getElem?_cons_zero, List.getElem?_cons_succ, List.map_cons, List.map_nil, List.replicate_zero, List.replicate_succ, List.range_zero, List.set_cons_zero, List.set_cons_succ, List.append_nil, List.nil_append, List.cons_append, List.contains_nil, if_true, if_false, ite_true, ite_false, reduceIte, Bool.and_true, Bool.true_and, Bool.not_true, Bool.not_false, Bool.false_and, Bool.and_false, decide_true, decide_false, Nat.reduceLeDiff, Nat.reduceSub, Nat.reduceAdd, Nat.reduceLT, Int.reduceLT, Int.reduceLE, Int.reduceEq, Int.reduceNe, Option.map_some, Option.map_none, Option.bind_some, Option.bind_none, decide_not, ne_eq, not_true_eq_false, not_false_eq_true, reduceCtorEq, and_self, nc0, nc1, nc2, nc3, nc4, nc5, nc6, b1__law_odd_rightly, lmade_top x _ h, lmade_bottom a x h, ne_rt, ne_rb, whole_odd x _ _ h, hr, isr_o1 x _ h, isr_o2 a x h]
theorem gI_one (a : Int) : gI a 1 = 1 := by
  unfold gI
  have : Nat.gcd a.natAbs (1 : Int).natAbs = 1 := Nat.gcd_one_right _
  rw [this] <;> rfl
theorem gI_two (a : Int) : gI (2 * a) 2 = 2 := by
  unfold gI
  have : Nat.gcd (2 * a).natAbs (2 : Int).natAbs = 2 := by
    rw [Int.natAbs_mul]
    exact Nat.gcd_mul_right_left a.natAbs 2
  rw [this] <;> rfl
theorem oddR_eq {a b : Int} (ha : Sm 4000 a) (hb : Sm 4000 b) : f__law_odd_rightly [.int a, .int b] [] = .ok (.bl true) [] := by
  have g : f__law_gcd [.int a, .int b] [] = .ok (.int (gI a b)) [] := lgcd_eq hb
  have lp (cs : List Cell) : loop (tgName 3) b1__law_odd_rightly [.p (.bl true), .p .non, .p (.str (Str.ofString "1")), .p (.tup [.int 1]), .p (.lst [.int 1])] ⟨[some (.p (.int a)), some (.p (.int b)), some (.ref 1), none, none], cs, none⟩ = .nx ⟨[some (.p (.int a)), some (.p (.int b)), some (.ref 1), some (.p (.lst [.int 1])), none], cs, none⟩ := by
    refine (loop_nx rfl (odd_body _ _ _ rfl (isr_bl _))).trans ?_
    refine (loop_nx rfl (odd_body _ _ _ rfl isr_non)).trans ?_
    refine (loop_nx rfl (odd_body _ _ _ rfl (isr_str _))).trans ?_
    refine (loop_nx rfl (odd_body _ _ _ rfl (isr_t1 _))).trans ?_
    exact (loop_nx rfl (odd_body _ _ _ rfl (isr_lst _))).trans rfl
  have b2 : bigC 2 a = true := bigC_of (k := 10) (by unfold Sm; decide) ha (by decide) (by decide) (by decide)
  have d1 : ((1 : Int) ≤ 1) := by decide
  have d2 : ¬ ((1 : Int) ≤ -1) := by decide
  by_cases h : 1 ≤ b
  · simp only [runF, entry, initE, fin, finR, frz_p, frz_ref, frzW_nil, frzW_p, frzW_ref, frzW_map, contN, cont, pds, pds_map, mb, eb, sSeq, sSet, sRet, sRetN, sIf, sNext, sExpr, sBreak, sCont, mVar, mC, mCons, mNil, mTup, fTup, mLst, fLst, mBin, mUn, mCB, mTest, mTru, truF, mAndT, mOrT, mNotT, mAnd, mOr, mNot, mIf, mChain, map_p_nil, map_p_cons, deepV_p, okq_non, okq_bl, okq_int, okq_str, okq_tup, okq_lst, okqs_nil, okqs_cons, fEq_ii, fNe_ii, fEq_ss, fNe_ss, at0, at1, at2, at3, at4, seqOf_tup, seqOf_lst, seqOf_ref, listOf_lst, listOf_ref, fIx_tup, fIx_lst, fIx_ref, ix10, ix20, ix21, ix30, ix31, ix32, ix40, ix41, ix42, ix43, ix50, ix51, ix52, ix53, ix54, ix60, ix61, ix62, ix63, ix64, ix65, ix70, ix71, ix72, ix73, ix74, ix75, ix76, ix80, ix81, ix82, ix83, ix84, ix85, ix86, ix87, fI, fSub, fDiv, fMod, fPow, fNeg, fLt, fLe, fGt, fGe, fOrd, fGcd, fAbs, fInt, fLen, fStr, fIs, fIsNot, isNon, fAdd, fMul, fIsi, tyOfD, tyNm, fAppend, mBM, mBM0, isL, DL.listOf, sSetItem, fSetItem, sPar, sAsg, tgName, tgTup, tgNil, tgCons, kit_ii, kit_bi, kit_ni, kit_si, kit_ti, kit_li, kit_ib, kit_bb, kit_nb, kit_sb, kit_tb, kit_lb, kit_it, kit_bt, kit_nt, kit_st, kit_tt, kit_lt, kit_is, kit_bs, kit_ns, kit_ss, kit_ts, kit_ls, kit_il, kit_bl, kit_nl, kit_sl, kit_tl, kit_ll, mCall, mCallD, callF, pass_nil, pass_p, pass_f, pass_m, callR, nodupB, setCells, yes2, line, range_1, range_2, List.length_cons, List.length_nil, List.getElem?_cons_zero, List.getElem?_cons_succ, List.map_cons, List.map_nil, List.replicate_zero, List.replicate_succ, List.range_zero, List.set_cons_zero, List.set_cons_succ, List.append_nil, List.nil_append, List.cons_append, List.contains_nil, if_true, if_false, ite_true, ite_false, reduceIte, Bool.and_true, Bool.true_and, Bool.not_true, Bool.not_false, Bool.false_and, Bool.and_false, decide_true, decide_false, Nat.reduceLeDiff, Nat.reduceSub, Nat.reduceAdd, Nat.reduceLT, Int.reduceLT, Int.reduceLE, Int.reduceEq, Int.reduceNe, Option.map_some, Option.map_none, Option.bind_some, Option.bind_none, decide_not, ne_eq, not_true_eq_false, not_false_eq_true, reduceCtorEq, and_self, nc0, nc1, nc2, nc3, nc4, nc5, nc6, f__law_odd_rightly, m__law_odd_rightly, sFor, mItl, lp, h, g, isr_two, isr_lst, isr_t3, told_eq, gI_one, gI_two, b2, d1, d2, Int.reduceNeg]
  · simp only [runF, entry, initE, fin, finR, frz_p, frz_ref, frzW_nil, frzW_p, frzW_ref, frzW_map, contN, cont, pds, pds_map, mb, eb, sSeq, sSet, sRet, sRetN, sIf, sNext, sExpr, sBreak, sCont, mVar, mC, mCons, mNil, mTup, fTup, mLst, fLst, mBin, mUn, mCB, mTest, mTru, truF, mAndT, mOrT, mNotT, mAnd, mOr, mNot, mIf, mChain, map_p_nil, map_p_cons, deepV_p, okq_non, okq_bl, okq_int, okq_str, okq_tup, okq_lst, okqs_nil, okqs_cons, fEq_ii, fNe_ii, fEq_ss, fNe_ss, at0, at1, at2, at3, at4, seqOf_tup, seqOf_lst, seqOf_ref, listOf_lst, listOf_ref, fIx_tup, fIx_lst, fIx_ref, ix10, ix20, ix21, ix30, ix31, ix32, ix40, ix41, ix42, ix43, ix50, ix51, ix52, ix53, ix54, ix60, ix61, ix62, ix63, ix64, ix65, ix70, ix71, ix72, ix73, ix74, ix75, ix76, ix80, ix81, ix82, ix83, ix84, ix85, ix86, ix87, fI, fSub, fDiv, fMod, fPow, fNeg, fLt, fLe, fGt, fGe, fOrd, fGcd, fAbs, fInt, fLen, fStr, fIs, fIsNot, isNon, fAdd, fMul, fIsi, tyOfD, tyNm, fAppend, mBM, mBM0, isL, DL.listOf, sSetItem, fSetItem, sPar, sAsg, tgName, tgTup, tgNil, tgCons, kit_ii, kit_bi, kit_ni, kit_si, kit_ti, kit_li, kit_ib, kit_bb, kit_nb, kit_sb, kit_tb, kit_lb, kit_it, kit_bt, kit_nt, kit_st, kit_tt, kit_lt, kit_is, kit_bs, kit_ns, kit_ss, kit_ts, kit_ls, kit_il, kit_bl, kit_nl, kit_sl, kit_tl, kit_ll, mCall, mCallD, callF, pass_nil, pass_p, pass_f, pass_m, callR, nodupB, setCells, yes2, line, range_1, range_2, List.length_cons, List.length_nil, List.getElem?_cons_zero, List.getElem?_cons_succ, List.map_cons, List.map_nil, List.replicate_zero, List.replicate_succ, List.range_zero, List.set_cons_zero, List.set_cons_succ, List.append_nil, List.nil_append, List.cons_append, List.contains_nil, if_true, if_false, ite_true, ite_false, reduceIte, Bool.and_true, Bool.true_and, Bool.not_true, Bool.not_false, Bool.false_and, Bool.and_false, decide_true, decide_false, Nat.reduceLeDiff, Nat.reduceSub, Nat.reduceAdd, Nat.reduceLT, Int.reduceLT, Int.reduceLE, Int.reduceEq, Int.reduceNe, Option.map_some, Option.map_none, Option.bind_some, Option.bind_none, decide_not, ne_eq, not_true_eq_false, not_false_eq_true, reduceCtorEq, and_self, nc0, nc1, nc2, nc3, nc4, nc5, nc6, f__law_odd_rightly, m__law_odd_rightly, sFor, mItl, lp, h, g, isr_two, isr_lst, isr_t3, told_eq, gI_one, gI_two, b2, d1, d2, Int.reduceNeg]
theorem wholeR_eq (a l h : Int) : f__law_whole_rightly [.int a, .int l, .int h] [] = .ok (.bl true) [] := by
  have d1 : ¬ (a + 1 ≤ a) := by omega
  have d2 : ¬ (a ≤ a - 1) := by omega
  have d3 : a ≤ a := by omega
  by_cases q : l ≤ a
  · simp only [runF, entry, initE, fin, finR, frz_p, frz_ref, frzW_nil, frzW_p, frzW_ref, frzW_map, contN, cont, pds, pds_map, mb, eb, sSeq, sSet, sRet, sRetN, sIf, sNext, sExpr, sBreak, sCont, mVar, mC, mCons, mNil, mTup, fTup, mLst, fLst, mBin, mUn, mCB, mTest, mTru, truF, mAndT, mOrT, mNotT, mAnd, mOr, mNot, mIf, mChain, map_p_nil, map_p_cons, deepV_p, okq_non, okq_bl, okq_int, okq_str, okq_tup, okq_lst, okqs_nil, okqs_cons, fEq_ii, fNe_ii, fEq_ss, fNe_ss, at0, at1, at2, at3, at4, seqOf_tup, seqOf_lst, seqOf_ref, listOf_lst, listOf_ref, fIx_tup, fIx_lst, fIx_ref, ix10, ix20, ix21, ix30, ix31, ix32, ix40, ix41, ix42, ix43, ix50, ix51, ix52, ix53, ix54, ix60, ix61, ix62, ix63, ix64, ix65, ix70, ix71, ix72, ix73, ix74, ix75, ix76, ix80, ix81, ix82, ix83, ix84, ix85, ix86, ix87, fI, fSub, fDiv, fMod, fPow, fNeg, fLt, fLe, fGt, fGe, fOrd, fGcd, fAbs, fInt, fLen, fStr, fIs, fIsNot, isNon, fAdd, fMul, fIsi, tyOfD, tyNm, fAppend, mBM, mBM0, isL, DL.listOf, sSetItem, fSetItem, sPar, sAsg, tgName, tgTup, tgNil, tgCons, kit_ii, kit_bi, kit_ni, kit_si, kit_ti, kit_li, kit_ib, kit_bb, kit_nb, kit_sb, kit_tb, kit_lb, kit_it, kit_bt, kit_nt, kit_st, kit_tt, kit_lt, kit_is, kit_bs, kit_ns, kit_ss, kit_ts, kit_ls, kit_il, kit_bl, kit_nl, kit_sl, kit_tl, kit_ll, mCall, mCallD, callF, pass_nil, pass_p, pass_f, pass_m, callR, nodupB, setCells, yes2, line, range_1, range_2, List.length_cons, List.length_nil, List.getElem?_cons_zero, List.getElem?_cons_succ, List.map_cons, List.map_nil, List.replicate_zero, List.replicate_succ, List.range_zero, List.set_cons_zero, List.set_cons_succ, List.append_nil, List.nil_append, List.cons_append, List.contains_nil, if_true, if_false, ite_true, ite_false, reduceIte, Bool.and_true, Bool.true_and, Bool.not_true, Bool.not_false, Bool.false_and, Bool.and_false, decide_true, decide_false, Nat.reduceLeDiff, Nat.reduceSub, Nat.reduceAdd, Nat.reduceLT, Int.reduceLT, Int.reduceLE, Int.reduceEq, Int.reduceNe, Option.map_some, Option.map_none, Option.bind_some, Option.bind_none, decide_not, ne_eq, not_true_eq_false, not_false_eq_true, reduceCtorEq, and_self, nc0, nc1, nc2, nc3, nc4, nc5, nc6, f__law_whole_rightly, m__law_whole_rightly, whole_int, whole_lo, whole_hi, whole_both, told_eq, mKw, gdd_is_whole_1_low_high, gdd_is_whole_1_high, noX, q, d1, d2, d3]
  · simp only [runF, entry, initE, fin, finR, frz_p, frz_ref, frzW_nil, frzW_p, frzW_ref, frzW_map, contN, cont, pds, pds_map, mb, eb, sSeq, sSet, sRet, sRetN, sIf, sNext, sExpr, sBreak, sCont, mVar, mC, mCons, mNil, mTup, fTup, mLst, fLst, mBin, mUn, mCB, mTest, mTru, truF, mAndT, mOrT, mNotT, mAnd, mOr, mNot, mIf, mChain, map_p_nil, map_p_cons, deepV_p, okq_non, okq_bl, okq_int, okq_str, okq_tup, okq_lst, okqs_nil, okqs_cons, fEq_ii, fNe_ii, fEq_ss, fNe_ss, at0, at1, at2, at3, at4, seqOf_tup, seqOf_lst, seqOf_ref, listOf_lst, listOf_ref, fIx_tup, fIx_lst, fIx_ref, ix10, ix20, ix21, ix30, ix31, ix32, ix40, ix41, ix42, ix43, ix50, ix51, ix52, ix53, ix54, ix60, ix61, ix62, ix63, ix64, ix65, ix70, ix71, ix72, ix73, ix74, ix75, ix76, ix80, ix81, ix82, ix83, ix84, ix85, ix86, ix87, fI, fSub, fDiv, fMod, fPow, fNeg, fLt, fLe, fGt, fGe, fOrd, fGcd, fAbs, fInt, fLen, fStr, fIs, fIsNot, isNon, fAdd, fMul, fIsi, tyOfD, tyNm, fAppend, mBM, mBM0, isL, DL.listOf, sSetItem, fSetItem, sPar, sAsg, tgName, tgTup, tgNil, tgCons, kit_ii, kit_bi, kit_ni, kit_si, kit_ti, kit_li, kit_ib, kit_bb, kit_nb, kit_sb, kit_tb, kit_lb, kit_it, kit_bt, kit_nt, kit_st, kit_tt, kit_lt, kit_is, kit_bs, kit_ns, kit_ss, kit_ts, kit_ls, kit_il, kit_bl, kit_nl, kit_sl, kit_tl, kit_ll, mCall, mCallD, callF, pass_nil, pass_p, pass_f, pass_m, callR, nodupB, setCells, yes2, line, range_1, range_2, List.length_cons, List.length_nil, List.getElem?_cons_zero, List.getElem?_cons_succ, List.map_cons, List.map_nil, List.replicate_zero, List.replicate_succ, List.range_zero, List.set_cons_zero, List.set_cons_succ, List.append_nil, List.nil_append, List.cons_append, List.contains_nil, if_true, if_false, ite_true, ite_false, reduceIte, Bool.and_true, Bool.true_and, Bool.not_true, Bool.not_false, Bool.false_and, Bool.and_false, decide_true, decide_false, Nat.reduceLeDiff, Nat.reduceSub, Nat.reduceAdd, Nat.reduceLT, Int.reduceLT, Int.reduceLE, Int.reduceEq, Int.reduceNe, Option.map_some, Option.map_none, Option.bind_some, Option.bind_none, decide_not, ne_eq, not_true_eq_false, not_false_eq_true, reduceCtorEq, and_self, nc0, nc1, nc2, nc3, nc4, nc5, nc6, f__law_whole_rightly, m__law_whole_rightly, whole_int, whole_lo, whole_hi, whole_both, told_eq, mKw, gdd_is_whole_1_low_high, gdd_is_whole_1_high, noX, q, d1, d2, d3]
end K01
namespace K01
open PySem PySem.Spec L2 DL
/-- both parts under k bits, the lower one positive -/
def Cn (k : Nat) (p : Int × Int) : Prop := Sm k p.1 ∧ Sm k p.2 ∧ 0 < p.2
theorem Cn.mono {k l : Nat} {p : Int × Int} (h : Cn k p) (q : k ≤ l) : Cn l p := ⟨h.1.mono q, h.2.1.mono q, h.2.2⟩
theorem Cn.low {k : Nat} {a b : Int} (h : b ≠ 0) (h1 : Sm k a) (h2 : Sm k b) : Cn k (low a b) := by
  obtain ⟨a1, a2, a3, a4, a5⟩ := low_spec (a := a) h
  exact ⟨h1.le a4, h2.le a5, a1⟩
def tms (p q : Int × Int) : Int × Int := low (p.1 * q.1) (p.2 * q.2)
def pls (p q : Int × Int) : Int × Int := low (p.1 * q.2 + q.1 * p.2) (p.2 * q.2)
def mns (p q : Int × Int) : Int × Int := low (p.1 * q.2 - q.1 * p.2) (p.2 * q.2)
def ngt (p : Int × Int) : Int × Int := (-p.1, p.2)
theorem mul_ne {p q : Int} (h1 : 0 < p) (h2 : 0 < q) : p * q ≠ 0 := by
  have := Int.mul_pos h1 h2
  omega
theorem big1 {i j : Int} (h : Sm 1000 i) (h2 : Sm 1000 j) : bigC i j = true := bigC_of h h2 (by decide) (by decide) (by decide)
theorem sm2 {i j : Int} (h : Sm 1000 i) (h2 : Sm 1000 j) : Sm 4000 (i * j) := (h.mul h2).mono (by decide)
section
variable {p q : Int × Int}
theorem times_eq (hp : Cn 1000 p) (hq : Cn 1000 q) : f_ratio_times [rat p, rat q] [] = .ok (rat (tms p q)) [] := by
  obtain ⟨p1, p2⟩ := p
  obtain ⟨q1, q2⟩ := q
  have l := lowest_eq (a := p1 * q1) (mul_ne hp.2.2 hq.2.2) (sm2 hp.2.1 hq.2.1)
  have b1 : bigC p1 q1 = true := big1 hp.1 hq.1
  have b2 : bigC p2 q2 = true := big1 hp.2.1 hq.2.1
  dsimp only at l
  by_cases h : p2 = 1
  · have dh : decide (p2 = 1) = true := decide_eq_true h
    by_cases h2 : q2 = 1
    · subst h h2
      simp only [runF, entry, initE, fin, finR, frz_p, frz_ref, frzW_nil, frzW_p, frzW_ref, frzW_map, contN, cont, pds, pds_map, mb, eb, sSeq, sSet, sRet, sRetN, sIf, sNext, sExpr, sBreak, sCont, mVar, mC, mCons, mNil, mTup, fTup, mLst, fLst, mBin, mUn, mCB, mTest, mTru, truF, mAndT, mOrT, mNotT, mAnd, mOr, mNot, mIf, mChain, map_p_nil, map_p_cons, deepV_p, okq_non, okq_bl, okq_int, okq_str, okq_tup, okq_lst, okqs_nil, okqs_cons, fEq_ii, fNe_ii, fEq_ss, fNe_ss, at0, at1, at2, at3, at4, seqOf_tup, seqOf_lst, seqOf_ref, listOf_lst, listOf_ref, fIx_tup, fIx_lst, fIx_ref, ix10, ix20, ix21, ix30, ix31, ix32, ix40, ix41, ix42, ix43, ix50, ix51, ix52, ix53, ix54, ix60, ix61, ix62, ix63, ix64, ix65, ix70, ix71, ix72, ix73, ix74, ix75, ix76, ix80, ix81, ix82, ix83, ix84, ix85, ix86, ix87, fI, fSub, fDiv, fMod, fPow, fNeg, fLt, fLe, fGt, fGe, fOrd, fGcd, fAbs, fInt, fLen, fStr, fIs, fIsNot, isNon, fAdd, fMul, fIsi, tyOfD, tyNm, fAppend, mBM, mBM0, isL, DL.listOf, sSetItem, fSetItem, sPar, sAsg, tgName, tgTup, tgNil, tgCons, kit_ii, kit_bi, kit_ni, kit_si, kit_ti, kit_li, kit_ib, kit_bb, kit_nb, kit_sb, kit_tb, kit_lb, kit_it, kit_bt, kit_nt, kit_st, kit_tt, kit_lt, kit_is, kit_bs, kit_ns, kit_ss, kit_ts, kit_ls, kit_il, kit_bl, kit_nl, kit_sl, kit_tl, kit_ll, mCall, mCallD, callF, pass_nil, pass_p, pass_f, pass_m, callR, nodupB, setCells, yes2, line, range_1, range_2, List.length_cons, List.length_nil, List.getElem?_cons_zero, List.getElem?_cons_succ, List.map_cons, List.map_nil, List.replicate_zero, List.replicate_succ, List.range_zero, List.set_cons_zero, List.set_cons_succ, List.append_nil, List.nil_append, List.cons_append, List.contains_nil, if_true, if_false, ite_true, ite_false, reduceIte, Bool.and_true, Bool.true_and, Bool.not_true, Bool.not_false, Bool.false_and, Bool.and_false, decide_true, decide_false, Nat.reduceLeDiff, Nat.reduceSub, Nat.reduceAdd, Nat.reduceLT, Int.reduceLT, Int.reduceLE, Int.reduceEq, Int.reduceNe, Option.map_some, Option.map_none, Option.bind_some, Option.bind_none, decide_not, ne_eq, not_true_eq_false, not_false_eq_true, reduceCtorEq, and_self, nc0, nc1, nc2, nc3, nc4, nc5, nc6, f_ratio_times, m_ratio_times, rat, b1]
      unfold tms
      rw [show ((1 : Int) * 1) = 1 from rfl, low_one]
    · simp only [runF, entry, initE, fin, finR, frz_p, frz_ref, frzW_nil, frzW_p, frzW_ref, frzW_map, contN, cont, pds, pds_map, mb, eb, sSeq, sSet, sRet, sRetN, sIf, sNext, sExpr, sBreak, sCont, mVar, mC, mCons, mNil, mTup, fTup, mLst, fLst, mBin, mUn, mCB, mTest, mTru, truF, mAndT, mOrT, mNotT, mAnd, mOr, mNot, mIf, mChain, map_p_nil, map_p_cons, deepV_p, okq_non, okq_bl, okq_int, okq_str, okq_tup, okq_lst, okqs_nil, okqs_cons, fEq_ii, fNe_ii, fEq_ss, fNe_ss, at0, at1, at2, at3, at4, seqOf_tup, seqOf_lst, seqOf_ref, listOf_lst, listOf_ref, fIx_tup, fIx_lst, fIx_ref, ix10, ix20, ix21, ix30, ix31, ix32, ix40, ix41, ix42, ix43, ix50, ix51, ix52, ix53, ix54, ix60, ix61, ix62, ix63, ix64, ix65, ix70, ix71, ix72, ix73, ix74, ix75, ix76, ix80, ix81, ix82, ix83, ix84, ix85, ix86, ix87, fI, fSub, fDiv, fMod, fPow, fNeg, fLt, fLe, fGt, fGe, fOrd, fGcd, fAbs, fInt, fLen, fStr, fIs, fIsNot, isNon, fAdd, fMul, fIsi, tyOfD, tyNm, fAppend, mBM, mBM0, isL, DL.listOf, sSetItem, fSetItem, sPar, sAsg, tgName, tgTup, tgNil, tgCons, kit_ii, kit_bi, kit_ni, kit_si, kit_ti, kit_li, kit_ib, kit_bb, kit_nb, kit_sb, kit_tb, kit_lb, kit_it, kit_bt, kit_nt, kit_st, kit_tt, kit_lt, kit_is, kit_bs, kit_ns, kit_ss, kit_ts, kit_ls, kit_il, kit_bl, kit_nl, kit_sl, kit_tl, kit_ll, mCall, mCallD, callF, pass_nil, pass_p, pass_f, pass_m, callR, nodupB, setCells, yes2, line, range_1, range_2, List.length_cons, List.length_nil, List.getElem?_cons_zero, List.getElem?_cons_succ, List.map_cons, List.map_nil, List.replicate_zero, List.replicate_succ, List.range_zero, List.set_cons_zero, List.set_cons_succ, List.append_nil, List.nil_append, List.cons_append, List.contains_nil, if_true, if_false, ite_true, ite_false, reduceIte, Bool.and_true, Bool.true_and, Bool.not_true, Bool.not_false, Bool.false_and, Bool.and_false, decide_true, decide_false, Nat.reduceLeDiff, Nat.reduceSub, Nat.reduceAdd, Nat.reduceLT, Int.reduceLT, Int.reduceLE, Int.reduceEq, Int.reduceNe, Option.map_some, Option.map_none, Option.bind_some, Option.bind_none, decide_not, ne_eq, not_true_eq_false, not_false_eq_true, reduceCtorEq, and_self, nc0, nc1, nc2, nc3, nc4, nc5, nc6, f_ratio_times, m_ratio_times, rat, b1, b2, dh, h2, l]
      rfl
  · simp only [runF, entry, initE, fin, finR, frz_p, frz_ref, frzW_nil, frzW_p, frzW_ref, frzW_map, contN, cont, pds, pds_map, mb, eb, sSeq, sSet, sRet, sRetN, sIf, sNext, sExpr, sBreak, sCont, mVar, mC, mCons, mNil, mTup, fTup, mLst, fLst, mBin, mUn, mCB, mTest, mTru, truF, mAndT, mOrT, mNotT, mAnd, mOr, mNot, mIf, mChain, map_p_nil, map_p_cons, deepV_p, okq_non, okq_bl, okq_int, okq_str, okq_tup, okq_lst, okqs_nil, okqs_cons, fEq_ii, fNe_ii, fEq_ss, fNe_ss, at0, at1, at2, at3, at4, seqOf_tup, seqOf_lst, seqOf_ref, listOf_lst, listOf_ref, fIx_tup, fIx_lst, fIx_ref, ix10, ix20, ix21, ix30, ix31, ix32, ix40, ix41, ix42, ix43, ix50, ix51, ix52, ix53, ix54, ix60, ix61, ix62, ix63, ix64, ix65, ix70, ix71, ix72, ix73, ix74, ix75, ix76, ix80, ix81, ix82, ix83, ix84, ix85, ix86, ix87, fI, fSub, fDiv, fMod, fPow, fNeg, fLt, fLe, fGt, fGe, fOrd, fGcd, fAbs, fInt, fLen, fStr, fIs, fIsNot, isNon, fAdd, fMul, fIsi, tyOfD, tyNm, fAppend, mBM, mBM0, isL, DL.listOf, sSetItem, fSetItem, sPar, sAsg, tgName, tgTup, tgNil, tgCons, kit_ii, kit_bi, kit_ni, kit_si, kit_ti, kit_li, kit_ib, kit_bb, kit_nb, kit_sb, kit_tb, kit_lb, kit_it, kit_bt, kit_nt, kit_st, kit_tt, kit_lt, kit_is, kit_bs, kit_ns, kit_ss, kit_ts, kit_ls, kit_il, kit_bl, kit_nl, kit_sl, kit_tl, kit_ll, mCall, mCallD, callF, pass_nil, pass_p, pass_f, pass_m, callR, nodupB, setCells, yes2, line, range_1, range_2, List.length_cons, List.length_nil, List.getElem?_cons_zero, List.getElem?_cons_succ, List.map_cons, List.map_nil, List.replicate_zero, List.replicate_succ, List.range_zero, List.set_cons_zero, List.set_cons_succ, List.append_nil, List.nil_append, List.cons_append, List.contains_nil, if_true, if_false, ite_true, ite_false, reduceIte, Bool.and_true, Bool.true_and, Bool.not_true, Bool.not_false, Bool.false_and, Bool.and_false, decide_true, decide_false, Nat.reduceLeDiff, Nat.reduceSub, Nat.reduceAdd, Nat.reduceLT, Int.reduceLT, Int.reduceLE, Int.reduceEq, Int.reduceNe, Option.map_some, Option.map_none, Option.bind_some, Option.bind_none, decide_not, ne_eq, not_true_eq_false, not_false_eq_true, reduceCtorEq, and_self, nc0, nc1, nc2, nc3, nc4, nc5, nc6, f_ratio_times, m_ratio_times, rat, b1, b2, h, l]
    rfl
theorem plus_eq (hp : Cn 1000 p) (hq : Cn 1000 q) : f_ratio_plus [rat p, rat q] [] = .ok (rat (pls p q)) [] := by
  obtain ⟨p1, p2⟩ := p
  obtain ⟨q1, q2⟩ := q
  have l := lowest_eq (a := p1 * q2 + q1 * p2) (mul_ne hp.2.2 hq.2.2) (sm2 hp.2.1 hq.2.1)
  have b1 : bigC p1 q2 = true := big1 hp.1 hq.2.1
  have b2 : bigC q1 p2 = true := big1 hq.1 hp.2.1
  have b3 : bigC p2 q2 = true := big1 hp.2.1 hq.2.1
  dsimp only at l
  by_cases h : p2 = 1
  · have dh : decide (p2 = 1) = true := decide_eq_true h
    by_cases h2 : q2 = 1
    · subst h h2
      simp only [runF, entry, initE, fin, finR, frz_p, frz_ref, frzW_nil, frzW_p, frzW_ref, frzW_map, contN, cont, pds, pds_map, mb, eb, sSeq, sSet, sRet, sRetN, sIf, sNext, sExpr, sBreak, sCont, mVar, mC, mCons, mNil, mTup, fTup, mLst, fLst, mBin, mUn, mCB, mTest, mTru, truF, mAndT, mOrT, mNotT, mAnd, mOr, mNot, mIf, mChain, map_p_nil, map_p_cons, deepV_p, okq_non, okq_bl, okq_int, okq_str, okq_tup, okq_lst, okqs_nil, okqs_cons, fEq_ii, fNe_ii, fEq_ss, fNe_ss, at0, at1, at2, at3, at4, seqOf_tup, seqOf_lst, seqOf_ref, listOf_lst, listOf_ref, fIx_tup, fIx_lst, fIx_ref, ix10, ix20, ix21, ix30, ix31, ix32, ix40, ix41, ix42, ix43, ix50, ix51, ix52, ix53, ix54, ix60, ix61, ix62, ix63, ix64, ix65, ix70, ix71, ix72, ix73, ix74, ix75, ix76, ix80, ix81, ix82, ix83, ix84, ix85, ix86, ix87, fI, fSub, fDiv, fMod, fPow, fNeg, fLt, fLe, fGt, fGe, fOrd, fGcd, fAbs, fInt, fLen, fStr, fIs, fIsNot, isNon, fAdd, fMul, fIsi, tyOfD, tyNm, fAppend, mBM, mBM0, isL, DL.listOf, sSetItem, fSetItem, sPar, sAsg, tgName, tgTup, tgNil, tgCons, kit_ii, kit_bi, kit_ni, kit_si, kit_ti, kit_li, kit_ib, kit_bb, kit_nb, kit_sb, kit_tb, kit_lb, kit_it, kit_bt, kit_nt, kit_st, kit_tt, kit_lt, kit_is, kit_bs, kit_ns, kit_ss, kit_ts, kit_ls, kit_il, kit_bl, kit_nl, kit_sl, kit_tl, kit_ll, mCall, mCallD, callF, pass_nil, pass_p, pass_f, pass_m, callR, nodupB, setCells, yes2, line, range_1, range_2, List.length_cons, List.length_nil, List.getElem?_cons_zero, List.getElem?_cons_succ, List.map_cons, List.map_nil, List.replicate_zero, List.replicate_succ, List.range_zero, List.set_cons_zero, List.set_cons_succ, List.append_nil, List.nil_append, List.cons_append, List.contains_nil, if_true, if_false, ite_true, ite_false, reduceIte, Bool.and_true, Bool.true_and, Bool.not_true, Bool.not_false, Bool.false_and, Bool.and_false, decide_true, decide_false, Nat.reduceLeDiff, Nat.reduceSub, Nat.reduceAdd, Nat.reduceLT, Int.reduceLT, Int.reduceLE, Int.reduceEq, Int.reduceNe, Option.map_some, Option.map_none, Option.bind_some, Option.bind_none, decide_not, ne_eq, not_true_eq_false, not_false_eq_true, reduceCtorEq, and_self, nc0, nc1, nc2, nc3, nc4, nc5, nc6, f_ratio_plus, m_ratio_plus, rat]
      unfold pls
      rw [show ((1 : Int) * 1) = 1 from rfl, low_one]
      dsimp only
      rw [Int.mul_one, Int.mul_one]
    · simp only [runF, entry, initE, fin, finR, frz_p, frz_ref, frzW_nil, frzW_p, frzW_ref, frzW_map, contN, cont, pds, pds_map, mb, eb, sSeq, sSet, sRet, sRetN, sIf, sNext, sExpr, sBreak, sCont, mVar, mC, mCons, mNil, mTup, fTup, mLst, fLst, mBin, mUn, mCB, mTest, mTru, truF, mAndT, mOrT, mNotT, mAnd, mOr, mNot, mIf, mChain, map_p_nil, map_p_cons, deepV_p, okq_non, okq_bl, okq_int, okq_str, okq_tup, okq_lst, okqs_nil, okqs_cons, fEq_ii, fNe_ii, fEq_ss, fNe_ss, at0, at1, at2, at3, at4, seqOf_tup, seqOf_lst, seqOf_ref, listOf_lst, listOf_ref, fIx_tup, fIx_lst, fIx_ref, ix10, ix20, ix21, ix30, ix31, ix32, ix40, ix41, ix42, ix43, ix50, ix51, ix52, ix53, ix54, ix60, ix61, ix62, ix63, ix64, ix65, ix70, ix71, ix72, ix73, ix74, ix75, ix76, ix80, ix81, ix82, ix83, ix84, ix85, ix86, ix87, fI, fSub, fDiv, fMod, fPow, fNeg, fLt, fLe, fGt, fGe, fOrd, fGcd, fAbs, fInt, fLen, fStr, fIs, fIsNot, isNon, fAdd, fMul, fIsi, tyOfD, tyNm, fAppend, mBM, mBM0, isL, DL.listOf, sSetItem, fSetItem, sPar, sAsg, tgName, tgTup, tgNil, tgCons, kit_ii, kit_bi, kit_ni, kit_si, kit_ti, kit_li, kit_ib, kit_bb, kit_nb, kit_sb, kit_tb, kit_lb, kit_it, kit_bt, kit_nt, kit_st, kit_tt, kit_lt, kit_is, kit_bs, kit_ns, kit_ss, kit_ts, kit_ls, kit_il, kit_bl, kit_nl, kit_sl, kit_tl, kit_ll, mCall, mCallD, callF, pass_nil, pass_p, pass_f, pass_m, callR, nodupB, setCells, yes2, line, range_1, range_2, List.length_cons, List.length_nil, List.getElem?_cons_zero, List.getElem?_cons_succ, List.map_cons, List.map_nil, List.replicate_zero, List.replicate_succ, List.range_zero, List.set_cons_zero, List.set_cons_succ, List.append_nil, List.nil_append, List.cons_append, List.contains_nil, if_true, if_false, ite_true, ite_false, reduceIte, Bool.and_true, Bool.true_and, Bool.not_true, Bool.not_false, Bool.false_and, Bool.and_false, decide_true, decide_false, Nat.reduceLeDiff, Nat.reduceSub, Nat.reduceAdd, Nat.reduceLT, Int.reduceLT, Int.reduceLE, Int.reduceEq, Int.reduceNe, Option.map_some, Option.map_none, Option.bind_some, Option.bind_none, decide_not, ne_eq, not_true_eq_false, not_false_eq_true, reduceCtorEq, and_self, nc0, nc1, nc2, nc3, nc4, nc5, nc6, f_ratio_plus, m_ratio_plus, rat, b1, b2, b3, dh, h2, l]
      rfl
  · simp only [runF, entry, initE, fin, finR, frz_p, frz_ref, frzW_nil, frzW_p, frzW_ref, frzW_map, contN, cont, pds, pds_map, mb, eb, sSeq, sSet, sRet, sRetN, sIf, sNext, sExpr, sBreak, sCont, mVar, mC, mCons, mNil, mTup, fTup, mLst, fLst, mBin, mUn, mCB, mTest, mTru, truF, mAndT, mOrT, mNotT, mAnd, mOr, mNot, mIf, mChain, map_p_nil, map_p_cons, deepV_p, okq_non, okq_bl, okq_int, okq_str, okq_tup, okq_lst, okqs_nil, okqs_cons, fEq_ii, fNe_ii, fEq_ss, fNe_ss, at0, at1, at2, at3, at4, seqOf_tup, seqOf_lst, seqOf_ref, listOf_lst, listOf_ref, fIx_tup, fIx_lst, fIx_ref, ix10, ix20, ix21, ix30, ix31, ix32, ix40, ix41, ix42, ix43, ix50, ix51, ix52, ix53, ix54, ix60, ix61, ix62, ix63, ix64, ix65, ix70, ix71, ix72, ix73, ix74, ix75, ix76, ix80, ix81, ix82, ix83, ix84, ix85, ix86, ix87, fI, fSub, fDiv, fMod, fPow, fNeg, fLt, fLe, fGt, fGe, fOrd, fGcd, fAbs, fInt, fLen, fStr, fIs, fIsNot, isNon, fAdd, fMul, fIsi, tyOfD, tyNm, fAppend, mBM, mBM0, isL, DL.listOf, sSetItem, fSetItem, sPar, sAsg, tgName, tgTup, tgNil, tgCons, kit_ii, kit_bi, kit_ni, kit_si, kit_ti, kit_li, kit_ib, kit_bb, kit_nb, kit_sb, kit_tb, kit_lb, kit_it, kit_bt, kit_nt, kit_st, kit_tt, kit_lt, kit_is, kit_bs, kit_ns, kit_ss, kit_ts, kit_ls, kit_il, kit_bl, kit_nl, kit_sl, kit_tl, kit_ll, mCall, mCallD, callF, pass_nil, pass_p, pass_f, pass_m, callR, nodupB, setCells, yes2, line, range_1, range_2, List.length_cons, List.length_nil, List.getElem?_cons_zero, List.getElem?_cons_succ, List.map_cons, List.map_nil, List.replicate_zero, List.replicate_succ, List.range_zero, List.set_cons_zero, List.set_cons_succ, List.append_nil, List.nil_append, List.cons_append, List.contains_nil, if_true, if_false, ite_true, ite_false, reduceIte, Bool.and_true, Bool.true_and, Bool.not_true, Bool.not_false, Bool.false_and, Bool.and_false, decide_true, decide_false, Nat.reduceLeDiff, Nat.reduceSub, Nat.reduceAdd, Nat.reduceLT, Int.reduceLT, Int.reduceLE, Int.reduceEq, Int.reduceNe, Option.map_some, Option.map_none, Option.bind_some, Option.bind_none, decide_not, ne_eq, not_true_eq_false, not_false_eq_true, reduceCtorEq, and_self, nc0, nc1, nc2, nc3, nc4, nc5, nc6, f_ratio_plus, m_ratio_plus, rat, b1, b2, b3, h, l]
    rfl
theorem minus_eq (hp : Cn 1000 p) (hq : Cn 1000 q) : f_ratio_minus [rat p, rat q] [] = .ok (rat (mns p q)) [] := by
  obtain ⟨p1, p2⟩ := p
  obtain ⟨q1, q2⟩ := q
  have l := lowest_eq (a := p1 * q2 - q1 * p2) (mul_ne hp.2.2 hq.2.2) (sm2 hp.2.1 hq.2.1)
  have b1 : bigC p1 q2 = true := big1 hp.1 hq.2.1
  have b2 : bigC q1 p2 = true := big1 hq.1 hp.2.1
  have b3 : bigC p2 q2 = true := big1 hp.2.1 hq.2.1
  dsimp only at l
  by_cases h : p2 = 1
  · have dh : decide (p2 = 1) = true := decide_eq_true h
    by_cases h2 : q2 = 1
    · subst h h2
      simp only [runF, entry, initE, fin, finR, frz_p, frz_ref, frzW_nil, frzW_p, frzW_ref, frzW_map, contN, cont, pds, pds_map, mb, eb, sSeq, sSet, sRet, sRetN, sIf, sNext, sExpr, sBreak, sCont, mVar, mC, mCons, mNil, mTup, fTup, mLst, fLst, mBin, mUn, mCB, mTest, mTru, truF, mAndT, mOrT, mNotT, mAnd, mOr, mNot, mIf, mChain, map_p_nil, map_p_cons, deepV_p, okq_non, okq_bl, okq_int, okq_str, okq_tup, okq_lst, okqs_nil, okqs_cons, fEq_ii, fNe_ii, fEq_ss, fNe_ss, at0, at1, at2, at3, at4, seqOf_tup, seqOf_lst, seqOf_ref, listOf_lst, listOf_ref, fIx_tup, fIx_lst, fIx_ref, ix10, ix20, ix21, ix30, ix31, ix32, ix40, ix41, ix42, ix43, ix50, ix51, ix52, ix53, ix54, ix60, ix61, ix62, ix63, ix64, ix65, ix70, ix71, ix72, ix73, ix74, ix75, ix76, ix80, ix81, ix82, ix83, ix84, ix85, ix86, ix87, fI, fSub, fDiv, fMod, fPow, fNeg, fLt, fLe, fGt, fGe, fOrd, fGcd, fAbs, fInt, fLen, fStr, fIs, fIsNot, isNon, fAdd, fMul, fIsi, tyOfD, tyNm, fAppend, mBM, mBM0, isL, DL.listOf, sSetItem, fSetItem, sPar, sAsg, tgName, tgTup, tgNil, tgCons, kit_ii, kit_bi, kit_ni, kit_si, kit_ti, kit_li, kit_ib, kit_bb, kit_nb, kit_sb, kit_tb, kit_lb, kit_it, kit_bt, kit_nt, kit_st, kit_tt, kit_lt, kit_is, kit_bs, kit_ns, kit_ss, kit_ts, kit_ls, kit_il, kit_bl, kit_nl, kit_sl, kit_tl, kit_ll, mCall, mCallD, callF, pass_nil, pass_p, pass_f, pass_m, callR, nodupB, setCells, yes2, line, range_1, range_2, List.length_cons, List.length_nil, List.getElem?_cons_zero, List.getElem?_cons_succ, List.map_cons, List.map_nil, List.replicate_zero, List.replicate_succ, List.range_zero, List.set_cons_zero, List.set_cons_succ, List.append_nil, List.nil_append, List.cons_append, List.contains_nil, if_true, if_false, ite_true, ite_false, reduceIte, Bool.and_true, Bool.true_and, Bool.not_true, Bool.not_false, Bool.false_and, Bool.and_false, decide_true, decide_false, Nat.reduceLeDiff, Nat.reduceSub, Nat.reduceAdd, Nat.reduceLT, Int.reduceLT, Int.reduceLE, Int.reduceEq, Int.reduceNe, Option.map_some, Option.map_none, Option.bind_some, Option.bind_none, decide_not, ne_eq, not_true_eq_false, not_false_eq_true, reduceCtorEq, and_self, nc0, nc1, nc2, nc3, nc4, nc5, nc6, f_ratio_minus, m_ratio_minus, rat]
      unfold mns
      rw [show ((1 : Int) * 1) = 1 from rfl, low_one]
      dsimp only
      rw [Int.mul_one, Int.mul_one]
    · simp only [runF, entry, initE, fin, finR, frz_p, frz_ref, frzW_nil, frzW_p, frzW_ref, frzW_map, contN, cont, pds, pds_map, mb, eb, sSeq, sSet, sRet, sRetN, sIf, sNext, sExpr, sBreak, sCont, mVar, mC, mCons, mNil, mTup, fTup, mLst, fLst, mBin, mUn, mCB, mTest, mTru, truF, mAndT, mOrT, mNotT, mAnd, mOr, mNot, mIf, mChain, map_p_nil, map_p_cons, deepV_p, okq_non, okq_bl, okq_int, okq_str, okq_tup, okq_lst, okqs_nil, okqs_cons, fEq_ii, fNe_ii, fEq_ss, fNe_ss, at0, at1, at2, at3, at4, seqOf_tup, seqOf_lst, seqOf_ref, listOf_lst, listOf_ref, fIx_tup, fIx_lst, fIx_ref, ix10, ix20, ix21, ix30, ix31, ix32, ix40, ix41, ix42, ix43, ix50, ix51, ix52, ix53, ix54, ix60, ix61, ix62, ix63, ix64, ix65, ix70, ix71, ix72, ix73, ix74, ix75, ix76, ix80, ix81, ix82, ix83, ix84, ix85, ix86, ix87, fI, fSub, fDiv, fMod, fPow, fNeg, fLt, fLe, fGt, fGe, fOrd, fGcd, fAbs, fInt, fLen, fStr, fIs, fIsNot, isNon, fAdd, fMul, fIsi, tyOfD, tyNm, fAppend, mBM, mBM0, isL, DL.listOf, sSetItem, fSetItem, sPar, sAsg, tgName, tgTup, tgNil, tgCons, kit_ii, kit_bi, kit_ni, kit_si, kit_ti, kit_li, kit_ib, kit_bb, kit_nb, kit_sb, kit_tb, kit_lb, kit_it, kit_bt, kit_nt, kit_st, kit_tt, kit_lt, kit_is, kit_bs, kit_ns, kit_ss, kit_ts, kit_ls, kit_il, kit_bl, kit_nl, kit_sl, kit_tl, kit_ll, mCall, mCallD, callF, pass_nil, pass_p, pass_f, pass_m, callR, nodupB, setCells, yes2, line, range_1, range_2, List.length_cons, List.length_nil, List.getElem?_cons_zero, List.getElem?_cons_succ, List.map_cons, List.map_nil, List.replicate_zero, List.replicate_succ, List.range_zero, List.set_cons_zero, List.set_cons_succ, List.append_nil, List.nil_append, List.cons_append, List.contains_nil, if_true, if_false, ite_true, ite_false, reduceIte, Bool.and_true, Bool.true_and, Bool.not_true, Bool.not_false, Bool.false_and, Bool.and_false, decide_true, decide_false, Nat.reduceLeDiff, Nat.reduceSub, Nat.reduceAdd, Nat.reduceLT, Int.reduceLT, Int.reduceLE, Int.reduceEq, Int.reduceNe, Option.map_some, Option.map_none, Option.bind_some, Option.bind_none, decide_not, ne_eq, not_true_eq_false, not_false_eq_true, reduceCtorEq, and_self, nc0, nc1, nc2, nc3, nc4, nc5, nc6, f_ratio_minus, m_ratio_minus, rat, b1, b2, b3, dh, h2, l]
      rfl
  · simp only [runF, entry, initE, fin, finR, frz_p, frz_ref, frzW_nil, frzW_p, frzW_ref, frzW_map, contN, cont, pds, pds_map, mb, eb, sSeq, sSet, sRet, sRetN, sIf, sNext, sExpr, sBreak, sCont, mVar, mC, mCons, mNil, mTup, fTup, mLst, fLst, mBin, mUn, mCB, mTest, mTru, truF, mAndT, mOrT, mNotT, mAnd, mOr, mNot, mIf, mChain, map_p_nil, map_p_cons, deepV_p, okq_non, okq_bl, okq_int, okq_str, okq_tup, okq_lst, okqs_nil, okqs_cons, fEq_ii, fNe_ii, fEq_ss, fNe_ss, at0, at1, at2, at3, at4, seqOf_tup, seqOf_lst, seqOf_ref, listOf_lst, listOf_ref, fIx_tup, fIx_lst, fIx_ref, ix10, ix20, ix21, ix30, ix31, ix32, ix40, ix41, ix42, ix43, ix50, ix51, ix52, ix53, ix54, ix60, ix61, ix62, ix63, ix64, ix65, ix70, ix71, ix72, ix73, ix74, ix75, ix76, ix80, ix81, ix82, ix83, ix84, ix85, ix86, ix87, fI, fSub, fDiv, fMod, fPow, fNeg, fLt, fLe, fGt, fGe, fOrd, fGcd, fAbs, fInt, fLen, fStr, fIs, fIsNot, isNon, fAdd, fMul, fIsi, tyOfD, tyNm, fAppend, mBM, mBM0, isL, DL.listOf, sSetItem, fSetItem, sPar, sAsg, tgName, tgTup, tgNil, tgCons, kit_ii, kit_bi, kit_ni, kit_si, kit_ti, kit_li, kit_ib, kit_bb, kit_nb, kit_sb, kit_tb, kit_lb, kit_it, kit_bt, kit_nt, kit_st, kit_tt, kit_lt, kit_is, kit_bs, kit_ns, kit_ss, kit_ts, kit_ls, kit_il, kit_bl, kit_nl, kit_sl, kit_tl, kit_ll, mCall, mCallD, callF, pass_nil, pass_p, pass_f, pass_m, callR, nodupB, setCells, yes2, line, range_1, range_2, List.length_cons, List.length_nil, List.getElem?_cons_zero, List.getElem?_cons_succ, List.map_cons, List.map_nil, List.replicate_zero, List.replicate_succ, List.range_zero, List.set_cons_zero, List.set_cons_succ, List.append_nil, List.nil_append, List.cons_append, List.contains_nil, if_true, if_false, ite_true, ite_false, reduceIte, Bool.and_true, Bool.true_and, Bool.not_true, Bool.not_false, Bool.false_and, Bool.and_false, decide_true, decide_false, Nat.reduceLeDiff, Nat.reduceSub, Nat.reduceAdd, Nat.reduceLT, Int.reduceLT, Int.reduceLE, Int.reduceEq, Int.reduceNe, Option.map_some, Option.map_none, Option.bind_some, Option.bind_none, decide_not, ne_eq, not_true_eq_false, not_false_eq_true, reduceCtorEq, and_self, nc0, nc1, nc2, nc3, nc4, nc5, nc6, f_ratio_minus, m_ratio_minus, rat, b1, b2, b3, h, l]
    rfl
theorem negative_eq : f_ratio_negative [rat p] [] = .ok (rat (ngt p)) [] := by
  simp only [runF, entry, initE, fin, finR, frz_p, frz_ref, frzW_nil, frzW_p, frzW_ref, frzW_map, contN, cont, pds, pds_map, mb, eb, sSeq, sSet, sRet, sRetN, sIf, sNext, sExpr, sBreak, sCont, mVar, mC, mCons, mNil, mTup, fTup, mLst, fLst, mBin, mUn, mCB, mTest, mTru, truF, mAndT, mOrT, mNotT, mAnd, mOr, mNot, mIf, mChain, map_p_nil, map_p_cons, deepV_p, okq_non, okq_bl, okq_int, okq_str, okq_tup, okq_lst, okqs_nil, okqs_cons, fEq_ii, fNe_ii, fEq_ss, fNe_ss, at0, at1, at2, at3, at4, seqOf_tup, seqOf_lst, seqOf_ref, listOf_lst, listOf_ref, fIx_tup, fIx_lst, fIx_ref, ix10, ix20, ix21, ix30, ix31, ix32, ix40, ix41, ix42, ix43, ix50, ix51, ix52, ix53, ix54, ix60, ix61, ix62, ix63, ix64, ix65, ix70, ix71, ix72, ix73, ix74, ix75, ix76, ix80, ix81, ix82, ix83, ix84, ix85, ix86, ix87, fI, fSub, fDiv, fMod, fPow, fNeg, fLt, fLe, fGt, fGe, fOrd, fGcd, fAbs, fInt, fLen, fStr, fIs, fIsNot, isNon, fAdd, fMul, fIsi, tyOfD, tyNm, fAppend, mBM, mBM0, isL, DL.listOf, sSetItem, fSetItem, sPar, sAsg, tgName, tgTup, tgNil, tgCons, kit_ii, kit_bi, kit_ni, kit_si, kit_ti, kit_li, kit_ib, kit_bb, kit_nb, kit_sb, kit_tb, kit_lb, kit_it, kit_bt, kit_nt, kit_st, kit_tt, kit_lt, kit_is, kit_bs, kit_ns, kit_ss, kit_ts, kit_ls, kit_il, kit_bl, kit_nl, kit_sl, kit_tl, kit_ll, mCall, mCallD, callF, pass_nil, pass_p, pass_f, pass_m, callR, nodupB, setCells, yes2, line, range_1, range_2, List.length_cons, List.length_nil, List.getElem?_cons_zero, List.getElem?_cons_succ, List.map_cons, List.map_nil, List.replicate_zero, List.replicate_succ, List.range_zero, List.set_cons_zero, List.set_cons_succ, List.append_nil, List.nil_append, List.cons_append, List.contains_nil, if_true, if_false, ite_true, ite_false, reduceIte, Bool.and_true, Bool.true_and, Bool.not_true, Bool.not_false, Bool.false_and, Bool.and_false, decide_true, decide_false, Nat.reduceLeDiff, Nat.reduceSub, Nat.reduceAdd, Nat.reduceLT, Int.reduceLT, Int.reduceLE, Int.reduceEq, Int.reduceNe, Option.map_some, Option.map_none, Option.bind_some, Option.bind_none, decide_not, ne_eq, not_true_eq_false, not_false_eq_true, reduceCtorEq, and_self, nc0, nc1, nc2, nc3, nc4, nc5, nc6, f_ratio_negative, m_ratio_negative, rat, ngt]
theorem ltimes_eq (hp : Cn 1000 p) (hq : Cn 1000 q) : f__law_times [rat p, rat q] [] = .ok (rat (tms p q)) [] := by
  obtain ⟨p1, p2⟩ := p
  obtain ⟨q1, q2⟩ := q
  have l := lratio_eq (a := p1 * q1) (mul_ne hp.2.2 hq.2.2) (sm2 hp.2.1 hq.2.1)
  have b1 : bigC p1 q1 = true := big1 hp.1 hq.1
  have b2 : bigC p2 q2 = true := big1 hp.2.1 hq.2.1
  dsimp only at l
  simp only [runF, entry, initE, fin, finR, frz_p, frz_ref, frzW_nil, frzW_p, frzW_ref, frzW_map, contN, cont, pds, pds_map, mb, eb, sSeq, sSet, sRet, sRetN, sIf, sNext, sExpr, sBreak, sCont, mVar, mC, mCons, mNil, mTup, fTup, mLst, fLst, mBin, mUn, mCB, mTest, mTru, truF, mAndT, mOrT, mNotT, mAnd, mOr, mNot, mIf, mChain, map_p_nil, map_p_cons, deepV_p, okq_non, okq_bl, okq_int, okq_str, okq_tup, okq_lst, okqs_nil, okqs_cons, fEq_ii, fNe_ii, fEq_ss, fNe_ss, at0, at1, at2, at3, at4, seqOf_tup, seqOf_lst, seqOf_ref, listOf_lst, listOf_ref, fIx_tup, fIx_lst, fIx_ref, ix10, ix20, ix21, ix30, ix31, ix32, ix40, ix41, ix42, ix43, ix50, ix51, ix52, ix53, ix54, ix60, ix61, ix62, ix63, ix64, ix65, ix70, ix71, ix72, ix73, ix74, ix75, ix76, ix80, ix81, ix82, ix83, ix84, ix85, ix86, ix87, fI, fSub, fDiv, fMod, fPow, fNeg, fLt, fLe, fGt, fGe, fOrd, fGcd, fAbs, fInt, fLen, fStr, fIs, fIsNot, isNon, fAdd, fMul, fIsi, tyOfD, tyNm, fAppend, mBM, mBM0, isL, DL.listOf, sSetItem, fSetItem, sPar, sAsg, tgName, tgTup, tgNil, tgCons, kit_ii, kit_bi, kit_ni, kit_si, kit_ti, kit_li, kit_ib, kit_bb, kit_nb, kit_sb, kit_tb, kit_lb, kit_it, kit_bt, kit_nt, kit_st, kit_tt, kit_lt, kit_is, kit_bs, kit_ns, kit_ss, kit_ts, kit_ls, kit_il, kit_bl, kit_nl, kit_sl, kit_tl, kit_ll, mCall, mCallD, callF, pass_nil, pass_p, pass_f, pass_m, callR, nodupB, setCells, yes2, line, range_1, range_2, List.length_cons, List.length_nil, List.getElem?_cons_zero, List.getElem?_cons_succ, List.map_cons, List.map_nil, List.replicate_zero, List.replicate_succ, List.range_zero, List.set_cons_zero, List.set_cons_succ, List.append_nil, List.nil_append, List.cons_append, List.contains_nil, if_true, if_false, ite_true, ite_false, reduceIte, Bool.and_true, Bool.true_and, Bool.not_true, Bool.not_false, Bool.false_and, Bool.and_false, decide_true, decide_false, Nat.reduceLeDiff, Nat.reduceSub, Nat.reduceAdd, Nat.reduceLT, Int.reduceLT, Int.reduceLE, Int.reduceEq, Int.reduceNe, Option.map_some, Option.map_none, Option.bind_some, Option.bind_none, decide_not, ne_eq, not_true_eq_false, not_false_eq_true, reduceCtorEq, and_self, nc0, nc1, nc2, nc3, nc4, nc5, nc6, f__law_times, m__law_times, rat, b1, b2, l]
  rfl
theorem lplus_eq (hp : Cn 1000 p) (hq : Cn 1000 q) : f__law_plus [rat p, rat q] [] = .ok (rat (pls p q)) [] := by
  obtain ⟨p1, p2⟩ := p
  obtain ⟨q1, q2⟩ := q
  have l := lratio_eq (a := p1 * q2 + q1 * p2) (mul_ne hp.2.2 hq.2.2) (sm2 hp.2.1 hq.2.1)
  have b1 : bigC p1 q2 = true := big1 hp.1 hq.2.1
  have b2 : bigC q1 p2 = true := big1 hq.1 hp.2.1
  have b3 : bigC p2 q2 = true := big1 hp.2.1 hq.2.1
  dsimp only at l
  simp only [runF, entry, initE, fin, finR, frz_p, frz_ref, frzW_nil, frzW_p, frzW_ref, frzW_map, contN, cont, pds, pds_map, mb, eb, sSeq, sSet, sRet, sRetN, sIf, sNext, sExpr, sBreak, sCont, mVar, mC, mCons, mNil, mTup, fTup, mLst, fLst, mBin, mUn, mCB, mTest, mTru, truF, mAndT, mOrT, mNotT, mAnd, mOr, mNot, mIf, mChain, map_p_nil, map_p_cons, deepV_p, okq_non, okq_bl, okq_int, okq_str, okq_tup, okq_lst, okqs_nil, okqs_cons, fEq_ii, fNe_ii, fEq_ss, fNe_ss, at0, at1, at2, at3, at4, seqOf_tup, seqOf_lst, seqOf_ref, listOf_lst, listOf_ref, fIx_tup, fIx_lst, fIx_ref, ix10, ix20, ix21, ix30, ix31, ix32, ix40, ix41, ix42, ix43, ix50, ix51, ix52, ix53, ix54, ix60, ix61, ix62, ix63, ix64, ix65, ix70, ix71, ix72, ix73, ix74, ix75, ix76, ix80, ix81, ix82, ix83, ix84, ix85, ix86, ix87, fI, fSub, fDiv, fMod, fPow, fNeg, fLt, fLe, fGt, fGe, fOrd, fGcd, fAbs, fInt, fLen, fStr, fIs, fIsNot, isNon, fAdd, fMul, fIsi, tyOfD, tyNm, fAppend, mBM, mBM0, isL, DL.listOf, sSetItem, fSetItem, sPar, sAsg, tgName, tgTup, tgNil, tgCons, kit_ii, kit_bi, kit_ni, kit_si, kit_ti, kit_li, kit_ib, kit_bb, kit_nb, kit_sb, kit_tb, kit_lb, kit_it, kit_bt, kit_nt, kit_st, kit_tt, kit_lt, kit_is, kit_bs, kit_ns, kit_ss, kit_ts, kit_ls, kit_il, kit_bl, kit_nl, kit_sl, kit_tl, kit_ll, mCall, mCallD, callF, pass_nil, pass_p, pass_f, pass_m, callR, nodupB, setCells, yes2, line, range_1, range_2, List.length_cons, List.length_nil, List.getElem?_cons_zero, List.getElem?_cons_succ, List.map_cons, List.map_nil, List.replicate_zero, List.replicate_succ, List.range_zero, List.set_cons_zero, List.set_cons_succ, List.append_nil, List.nil_append, List.cons_append, List.contains_nil, if_true, if_false, ite_true, ite_false, reduceIte, Bool.and_true, Bool.true_and, Bool.not_true, Bool.not_false, Bool.false_and, Bool.and_false, decide_true, decide_false, Nat.reduceLeDiff, Nat.reduceSub, Nat.reduceAdd, Nat.reduceLT, Int.reduceLT, Int.reduceLE, Int.reduceEq, Int.reduceNe, Option.map_some, Option.map_none, Option.bind_some, Option.bind_none, decide_not, ne_eq, not_true_eq_false, not_false_eq_true, reduceCtorEq, and_self, nc0, nc1, nc2, nc3, nc4, nc5, nc6, f__law_plus, m__law_plus, rat, b1, b2, b3, l]
  rfl
theorem pls_ngt : pls p (ngt q) = mns p q := by
  unfold pls mns ngt
  dsimp only
  rw [Int.neg_mul, ← Int.sub_eq_add_neg]
def pw (p : Int × Int) : Nat → Int × Int
  | 0 => (1, 1)
  | n + 1 => tms (pw p n) p
theorem pw_cn (hp : Cn 101 p) : ∀ n, Cn (1 + 101 * n) (pw p n)
  | 0 => by unfold Cn pw Sm; decide
  | n + 1 => by
    have h := pw_cn hp n
    have e : 1 + 101 * (n + 1) = (1 + 101 * n) + 101 := by omega
    rw [e]
    exact Cn.low (mul_ne h.2.2 hp.2.2) (h.1.mul hp.1) (h.2.1.mul hp.2.1)
theorem power_loop (hp : Cn 101 p) (n : D) : ∀ (m k : Nat) (items : List D) (x : Option D), items.length = m → k + m ≤ 6 → ∃ y,
    loop (tgName 3) b1_ratio_power items ⟨[some (.p (rat p)), some n, some (.p (rat (pw p k))), x], [], none⟩ = .nx ⟨[some (.p (rat p)), some n, some (.p (rat (pw p (k + m)))), y], [], none⟩
  | 0, k, [], x, _, _ => ⟨x, rfl⟩
  | m + 1, k, d :: items, x, hl, hk => by
    have e : f_ratio_times [rat (pw p k), rat p] [] = .ok (rat (pw p (k + 1))) [] := times_eq ((pw_cn hp k).mono (by omega)) (hp.mono (by decide))
    have ⟨y, ih⟩ := power_loop hp n m (k + 1) items (some d) (by simpa using hl) (by omega)
    refine ⟨y, ?_⟩
    have e2 : k + (m + 1) = k + 1 + m := by omega
    rw [e2]
    refine (loop_nx (s2 := ⟨[some (.p (rat p)), some n, some (.p (rat (pw p (k + 1)))), some d], [], none⟩) rfl ?_).trans ih
    simp only [runF, entry, initE, fin, finR, frz_p, frz_ref, frzW_nil, frzW_p, frzW_ref, frzW_map, contN, cont, pds, pds_map, mb, eb, sSeq, sSet, sRet, sRetN, sIf, sNext, sExpr, sBreak, sCont, mVar, mC, mCons, mNil, mTup, fTup, mLst, fLst, mBin, mUn, mCB, mTest, mTru, truF, mAndT, mOrT, mNotT, mAnd, mOr, mNot, mIf, mChain, map_p_nil, map_p_cons, deepV_p, okq_non, okq_bl, okq_int, okq_str, okq_tup, okq_lst, okqs_nil, okqs_cons, fEq_ii, fNe_ii, fEq_ss, fNe_ss, at0, at1, at2, at3, at4, seqOf_tup, seqOf_lst, seqOf_ref, listOf_lst, listOf_ref, fIx_tup, fIx_lst, fIx_ref, ix10, ix20, ix21, ix30, ix31, ix32, ix40, ix41, ix42, ix43, ix50, ix51, ix52, ix53, ix54, ix60, ix61, ix62, ix63, ix64, ix65, ix70, ix71, ix72, ix73, ix74, ix75, ix76, ix80, ix81, ix82, ix83, ix84, ix85, ix86, ix87, fI, fSub, fDiv, fMod, fPow, fNeg, fLt, fLe, fGt, fGe, fOrd, fGcd, fAbs, fInt, fLen, fStr, fIs, fIsNot, isNon, fAdd, fMul, fIsi, tyOfD, tyNm, fAppend, mBM, mBM0, isL, DL.listOf, sSetItem, fSetItem, sPar, sAsg, tgName, tgTup, tgNil, tgCons, kit_ii, kit_bi, kit_ni, kit_si, kit_ti, kit_li, kit_ib, kit_bb, kit_nb, kit_sb, kit_tb, kit_lb, kit_it, kit_bt, kit_nt, kit_st, kit_tt, kit_lt, kit_is, kit_bs, kit_ns, kit_ss, kit_ts, kit_ls, kit_il, kit_bl, kit_nl, kit_sl, kit_tl, kit_ll, mCall, mCallD, callF, pass_nil, pass_p, pass_f, pass_m, callR, nodupB, setCells, yes2, line, range_1, range_2, List.length_cons, List.length_nil, List.getElem?_cons_zero, List.getElem?_cons_succ, List.map_cons, List.map_nil, List.replicate_zero, List.replicate_succ, List.range_zero, List.set_cons_zero, List.set_cons_succ, List.append_nil, List.nil_append, List.cons_append, List.contains_nil, if_true, if_false, ite_true, ite_false, reduceIte, Bool.and_true, Bool.true_and, Bool.not_true, Bool.not_false, Bool.false_and, Bool.and_false, decide_true, decide_false, Nat.reduceLeDiff, Nat.reduceSub, Nat.reduceAdd, Nat.reduceLT, Int.reduceLT, Int.reduceLE, Int.reduceEq, Int.reduceNe, Option.map_some, Option.map_none, Option.bind_some, Option.bind_none, decide_not, ne_eq, not_true_eq_false, not_false_eq_true, reduceCtorEq, and_self, nc0, nc1, nc2, nc3, nc4, nc5, nc6, b1_ratio_power, e]
theorem power_eq (hp : Cn 101 p) {n : Int} (h0 : 0 ≤ n) (h1 : n < 6) : f_ratio_power [rat p, .int n] [] = .ok (rat (pw p n.toNat)) [] := by
  have hl : lim62 n = true := by
    have : n = 0 ∨ n = 1 ∨ n = 2 ∨ n = 3 ∨ n = 4 ∨ n = 5 := by omega
    rcases this with rfl | rfl | rfl | rfl | rfl | rfl <;> decide
  obtain ⟨y, e⟩ := power_loop hp (.p (.int n)) n.toNat 0 (rng 0 n.toNat) none rng_len (by omega)
  rw [Nat.zero_add] at e
  have k1 : k_ONE = rat (1, 1) := rfl
  have e0 : pw p 0 = (1, 1) := rfl
  rw [e0] at e
  simp only [runF, entry, initE, fin, finR, frz_p, frz_ref, frzW_nil, frzW_p, frzW_ref, frzW_map, contN, cont, pds, pds_map, mb, eb, sSeq, sSet, sRet, sRetN, sIf, sNext, sExpr, sBreak, sCont, mVar, mC, mCons, mNil, mTup, fTup, mLst, fLst, mBin, mUn, mCB, mTest, mTru, truF, mAndT, mOrT, mNotT, mAnd, mOr, mNot, mIf, mChain, map_p_nil, map_p_cons, deepV_p, okq_non, okq_bl, okq_int, okq_str, okq_tup, okq_lst, okqs_nil, okqs_cons, fEq_ii, fNe_ii, fEq_ss, fNe_ss, at0, at1, at2, at3, at4, seqOf_tup, seqOf_lst, seqOf_ref, listOf_lst, listOf_ref, fIx_tup, fIx_lst, fIx_ref, ix10, ix20, ix21, ix30, ix31, ix32, ix40, ix41, ix42, ix43, ix50, ix51, ix52, ix53, ix54, ix60, ix61, ix62, ix63, ix64, ix65, ix70, ix71, ix72, ix73, ix74, ix75, ix76, ix80, ix81, ix82, ix83, ix84, ix85, ix86, ix87, fI, fSub, fDiv, fMod, fPow, fNeg, fLt, fLe, fGt, fGe, fOrd, fGcd, fAbs, fInt, fLen, fStr, fIs, fIsNot, isNon, fAdd, fMul, fIsi, tyOfD, tyNm, fAppend, mBM, mBM0, isL, DL.listOf, sSetItem, fSetItem, sPar, sAsg, tgName, tgTup, tgNil, tgCons, kit_ii, kit_bi, kit_ni, kit_si, kit_ti, kit_li, kit_ib, kit_bb, kit_nb, kit_sb, kit_tb, kit_lb, kit_it, kit_bt, kit_nt, kit_st, kit_tt, kit_lt, kit_is, kit_bs, kit_ns, kit_ss, kit_ts, kit_ls, kit_il, kit_bl, kit_nl, kit_sl, kit_tl, kit_ll, mCall, mCallD, callF, pass_nil, pass_p, pass_f, pass_m, callR, nodupB, setCells, yes2, line, range_1, range_2, List.length_cons, List.length_nil, List.getElem?_cons_zero, List.getElem?_cons_succ, List.map_cons, List.map_nil, List.replicate_zero, List.replicate_succ, List.range_zero, List.set_cons_zero, List.set_cons_succ, List.append_nil, List.nil_append, List.cons_append, List.contains_nil, if_true, if_false, ite_true, ite_false, reduceIte, Bool.and_true, Bool.true_and, Bool.not_true, Bool.not_false, Bool.false_and, Bool.and_false, decide_true, decide_false, Nat.reduceLeDiff, Nat.reduceSub, Nat.reduceAdd, Nat.reduceLT, Int.reduceLT, Int.reduceLE, Int.reduceEq, Int.reduceNe, Option.map_some, Option.map_none, Option.bind_some, Option.bind_none, decide_not, ne_eq, not_true_eq_false, not_false_eq_true, reduceCtorEq, and_self, nc0, nc1, nc2, nc3, nc4, nc5, nc6, f_ratio_power, m_ratio_power, sFor, fRng1, hl, k1, e]
theorem compare_eq (hp : Cn 1000 p) (hq : Cn 1000 q) : f_ratio_compare [rat p, rat q] [] = .ok (.int (if p.1 * q.2 < q.1 * p.2 then -1 else if q.1 * p.2 < p.1 * q.2 then 1 else 0)) [] := by
  obtain ⟨p1, p2⟩ := p
  obtain ⟨q1, q2⟩ := q
  have b1 : bigC p1 q2 = true := big1 hp.1 hq.2.1
  have b2 : bigC q1 p2 = true := big1 hq.1 hp.2.1
  by_cases h : p1 * q2 < q1 * p2
  · simp only [runF, entry, initE, fin, finR, frz_p, frz_ref, frzW_nil, frzW_p, frzW_ref, frzW_map, contN, cont, pds, pds_map, mb, eb, sSeq, sSet, sRet, sRetN, sIf, sNext, sExpr, sBreak, sCont, mVar, mC, mCons, mNil, mTup, fTup, mLst, fLst, mBin, mUn, mCB, mTest, mTru, truF, mAndT, mOrT, mNotT, mAnd, mOr, mNot, mIf, mChain, map_p_nil, map_p_cons, deepV_p, okq_non, okq_bl, okq_int, okq_str, okq_tup, okq_lst, okqs_nil, okqs_cons, fEq_ii, fNe_ii, fEq_ss, fNe_ss, at0, at1, at2, at3, at4, seqOf_tup, seqOf_lst, seqOf_ref, listOf_lst, listOf_ref, fIx_tup, fIx_lst, fIx_ref, ix10, ix20, ix21, ix30, ix31, ix32, ix40, ix41, ix42, ix43, ix50, ix51, ix52, ix53, ix54, ix60, ix61, ix62, ix63, ix64, ix65, ix70, ix71, ix72, ix73, ix74, ix75, ix76, ix80, ix81, ix82, ix83, ix84, ix85, ix86, ix87, fI, fSub, fDiv, fMod, fPow, fNeg, fLt, fLe, fGt, fGe, fOrd, fGcd, fAbs, fInt, fLen, fStr, fIs, fIsNot, isNon, fAdd, fMul, fIsi, tyOfD, tyNm, fAppend, mBM, mBM0, isL, DL.listOf, sSetItem, fSetItem, sPar, sAsg, tgName, tgTup, tgNil, tgCons, kit_ii, kit_bi, kit_ni, kit_si, kit_ti, kit_li, kit_ib, kit_bb, kit_nb, kit_sb, kit_tb, kit_lb, kit_it, kit_bt, kit_nt, kit_st, kit_tt, kit_lt, kit_is, kit_bs, kit_ns, kit_ss, kit_ts, kit_ls, kit_il, kit_bl, kit_nl, kit_sl, kit_tl, kit_ll, mCall, mCallD, callF, pass_nil, pass_p, pass_f, pass_m, callR, nodupB, setCells, yes2, line, range_1, range_2, List.length_cons, List.length_nil, List.getElem?_cons_zero, List.getElem?_cons_succ, List.map_cons, List.map_nil, List.replicate_zero, List.replicate_succ, List.range_zero, List.set_cons_zero, List.set_cons_succ, List.append_nil, List.nil_append, List.cons_append, List.contains_nil, if_true, if_false, ite_true, ite_false, reduceIte, Bool.and_true, Bool.true_and, Bool.not_true, Bool.not_false, Bool.false_and, Bool.and_false, decide_true, decide_false, Nat.reduceLeDiff, Nat.reduceSub, Nat.reduceAdd, Nat.reduceLT, Int.reduceLT, Int.reduceLE, Int.reduceEq, Int.reduceNe, Option.map_some, Option.map_none, Option.bind_some, Option.bind_none, decide_not, ne_eq, not_true_eq_false, not_false_eq_true, reduceCtorEq, and_self, nc0, nc1, nc2, nc3, nc4, nc5, nc6, f_ratio_compare, m_ratio_compare, rat, b1, b2, h]
  · by_cases h2 : q1 * p2 < p1 * q2
    · simp only [runF, entry, initE, fin, finR, frz_p, frz_ref, frzW_nil, frzW_p, frzW_ref, frzW_map, contN, cont, pds, pds_map, mb, eb, sSeq, sSet, sRet, sRetN, sIf, sNext, sExpr, sBreak, sCont, mVar, mC, mCons, mNil, mTup, fTup, mLst, fLst, mBin, mUn, mCB, mTest, mTru, truF, mAndT, mOrT, mNotT, mAnd, mOr, mNot, mIf, mChain, map_p_nil, map_p_cons, deepV_p, okq_non, okq_bl, okq_int, okq_str, okq_tup, okq_lst, okqs_nil, okqs_cons, fEq_ii, fNe_ii, fEq_ss, fNe_ss, at0, at1, at2, at3, at4, seqOf_tup, seqOf_lst, seqOf_ref, listOf_lst, listOf_ref, fIx_tup, fIx_lst, fIx_ref, ix10, ix20, ix21, ix30, ix31, ix32, ix40, ix41, ix42, ix43, ix50, ix51, ix52, ix53, ix54, ix60, ix61, ix62, ix63, ix64, ix65, ix70, ix71, ix72, ix73, ix74, ix75, ix76, ix80, ix81, ix82, ix83, ix84, ix85, ix86, ix87, fI, fSub, fDiv, fMod, fPow, fNeg, fLt, fLe, fGt, fGe, fOrd, fGcd, fAbs, fInt, fLen, fStr, fIs, fIsNot, isNon, fAdd, fMul, fIsi, tyOfD, tyNm, fAppend, mBM, mBM0, isL, DL.listOf, sSetItem, fSetItem, sPar, sAsg, tgName, tgTup, tgNil, tgCons, kit_ii, kit_bi, kit_ni, kit_si, kit_ti, kit_li, kit_ib, kit_bb, kit_nb, kit_sb, kit_tb, kit_lb, kit_it, kit_bt, kit_nt, kit_st, kit_tt, kit_lt, kit_is, kit_bs, kit_ns, kit_ss, kit_ts, kit_ls, kit_il, kit_bl, kit_nl, kit_sl, kit_tl, kit_ll, mCall, mCallD, callF, pass_nil, pass_p, pass_f, pass_m, callR, nodupB, setCells, yes2, line, range_1, range_2, List.length_cons, List.length_nil, List.getElem?_cons_zero, List.getElem?_cons_succ, List.map_cons, List.map_nil, List.replicate_zero, List.replicate_succ, List.range_zero, List.set_cons_zero, List.set_cons_succ, List.append_nil, List.nil_append, List.cons_append, List.contains_nil, if_true, if_false, ite_true, ite_false, reduceIte, Bool.and_true, Bool.true_and, Bool.not_true, Bool.not_false, Bool.false_and, Bool.and_false, decide_true, decide_false, Nat.reduceLeDiff, Nat.reduceSub, Nat.reduceAdd, Nat.reduceLT, Int.reduceLT, Int.reduceLE, Int.reduceEq, Int.reduceNe, Option.map_some, Option.map_none, Option.bind_some, Option.bind_none, decide_not, ne_eq, not_true_eq_false, not_false_eq_true, reduceCtorEq, and_self, nc0, nc1, nc2, nc3, nc4, nc5, nc6, f_ratio_compare, m_ratio_compare, rat, b1, b2, h, h2]
    · simp only [runF, entry, initE, fin, finR, frz_p, frz_ref, frzW_nil, frzW_p, frzW_ref, frzW_map, contN, cont, pds, pds_map, mb, eb, sSeq, sSet, sRet, sRetN, sIf, sNext, sExpr, sBreak, sCont, mVar, mC, mCons, mNil, mTup, fTup, mLst, fLst, mBin, mUn, mCB, mTest, mTru, truF, mAndT, mOrT, mNotT, mAnd, mOr, mNot, mIf, mChain, map_p_nil, map_p_cons, deepV_p, okq_non, okq_bl, okq_int, okq_str, okq_tup, okq_lst, okqs_nil, okqs_cons, fEq_ii, fNe_ii, fEq_ss, fNe_ss, at0, at1, at2, at3, at4, seqOf_tup, seqOf_lst, seqOf_ref, listOf_lst, listOf_ref, fIx_tup, fIx_lst, fIx_ref, ix10, ix20, ix21, ix30, ix31, ix32, ix40, ix41, ix42, ix43, ix50, ix51, ix52, ix53, ix54, ix60, ix61, ix62, ix63, ix64, ix65, ix70, ix71, ix72, ix73, ix74, ix75, ix76, ix80, ix81, ix82, ix83, ix84, ix85, ix86, ix87, fI, fSub, fDiv, fMod, fPow, fNeg, fLt, fLe, fGt, fGe, fOrd, fGcd, fAbs, fInt, fLen, fStr, fIs, fIsNot, isNon, fAdd, fMul, fIsi, tyOfD, tyNm, fAppend, mBM, mBM0, isL, DL.listOf, sSetItem, fSetItem, sPar, sAsg, tgName, tgTup, tgNil, tgCons, kit_ii, kit_bi, kit_ni, kit_si, kit_ti, kit_li, kit_ib, kit_bb, kit_nb, kit_sb, kit_tb, kit_lb, kit_it, kit_bt, kit_nt, kit_st, kit_tt, kit_lt, kit_is, kit_bs, kit_ns, kit_ss, kit_ts, kit_ls, kit_il, kit_bl, kit_nl, kit_sl, kit_tl, kit_ll, mCall, mCallD, callF, pass_nil, pass_p, pass_f, pass_m, callR, nodupB, setCells, yes2, line, range_1, range_2, List.length_cons, List.length_nil, List.getElem?_cons_zero, List.getElem?_cons_succ, List.map_cons, List.map_nil, List.replicate_zero, List.replicate_succ, List.range_zero, List.set_cons_zero, List.set_cons_succ, List.append_nil, List.nil_append, List.cons_append, List.contains_nil, if_true, if_false, ite_true, ite_false, reduceIte, Bool.and_true, Bool.true_and, Bool.not_true, Bool.not_false, Bool.false_and, Bool.and_false, decide_true, decide_false, Nat.reduceLeDiff, Nat.reduceSub, Nat.reduceAdd, Nat.reduceLT, Int.reduceLT, Int.reduceLE, Int.reduceEq, Int.reduceNe, Option.map_some, Option.map_none, Option.bind_some, Option.bind_none, decide_not, ne_eq, not_true_eq_false, not_false_eq_true, reduceCtorEq, and_self, nc0, nc1, nc2, nc3, nc4, nc5, nc6, f_ratio_compare, m_ratio_compare, rat, b1, b2, h, h2]
theorem over_nought (h : q.1 = 0) : f__law_divided [rat p, rat q] [] = .ok (.tup [.str "refused", .str ""]) [] := by
  have e : f_ratio_over [rat p, rat q] [] = .exc 2 [] [] := by
    simp only [runF, entry, initE, fin, finR, frz_p, frz_ref, frzW_nil, frzW_p, frzW_ref, frzW_map, contN, cont, pds, pds_map, mb, eb, sSeq, sSet, sRet, sRetN, sIf, sNext, sExpr, sBreak, sCont, mVar, mC, mCons, mNil, mTup, fTup, mLst, fLst, mBin, mUn, mCB, mTest, mTru, truF, mAndT, mOrT, mNotT, mAnd, mOr, mNot, mIf, mChain, map_p_nil, map_p_cons, deepV_p, okq_non, okq_bl, okq_int, okq_str, okq_tup, okq_lst, okqs_nil, okqs_cons, fEq_ii, fNe_ii, fEq_ss, fNe_ss, at0, at1, at2, at3, at4, seqOf_tup, seqOf_lst, seqOf_ref, listOf_lst, listOf_ref, fIx_tup, fIx_lst, fIx_ref, ix10, ix20, ix21, ix30, ix31, ix32, ix40, ix41, ix42, ix43, ix50, ix51, ix52, ix53, ix54, ix60, ix61, ix62, ix63, ix64, ix65, ix70, ix71, ix72, ix73, ix74, ix75, ix76, ix80, ix81, ix82, ix83, ix84, ix85, ix86, ix87, fI, fSub, fDiv, fMod, fPow, fNeg, fLt, fLe, fGt, fGe, fOrd, fGcd, fAbs, fInt, fLen, fStr, fIs, fIsNot, isNon, fAdd, fMul, fIsi, tyOfD, tyNm, fAppend, mBM, mBM0, isL, DL.listOf, sSetItem, fSetItem, sPar, sAsg, tgName, tgTup, tgNil, tgCons, kit_ii, kit_bi, kit_ni, kit_si, kit_ti, kit_li, kit_ib, kit_bb, kit_nb, kit_sb, kit_tb, kit_lb, kit_it, kit_bt, kit_nt, kit_st, kit_tt, kit_lt, kit_is, kit_bs, kit_ns, kit_ss, kit_ts, kit_ls, kit_il, kit_bl, kit_nl, kit_sl, kit_tl, kit_ll, mCall, mCallD, callF, pass_nil, pass_p, pass_f, pass_m, callR, nodupB, setCells, yes2, line, range_1, range_2, List.length_cons, List.length_nil, List.getElem?_cons_zero, List.getElem?_cons_succ, List.map_cons, List.map_nil, List.replicate_zero, List.replicate_succ, List.range_zero, List.set_cons_zero, List.set_cons_succ, List.append_nil, List.nil_append, List.cons_append, List.contains_nil, if_true, if_false, ite_true, ite_false, reduceIte, Bool.and_true, Bool.true_and, Bool.not_true, Bool.not_false, Bool.false_and, Bool.and_false, decide_true, decide_false, Nat.reduceLeDiff, Nat.reduceSub, Nat.reduceAdd, Nat.reduceLT, Int.reduceLT, Int.reduceLE, Int.reduceEq, Int.reduceNe, Option.map_some, Option.map_none, Option.bind_some, Option.bind_none, decide_not, ne_eq, not_true_eq_false, not_false_eq_true, reduceCtorEq, and_self, nc0, nc1, nc2, nc3, nc4, nc5, nc6, f_ratio_over, m_ratio_over, rat, h, sRaise0]
  simp only [runF, entry, initE, fin, finR, frz_p, frz_ref, frzW_nil, frzW_p, frzW_ref, frzW_map, contN, cont, pds, pds_map, mb, eb, sSeq, sSet, sRet, sRetN, sIf, sNext, sExpr, sBreak, sCont, mVar, mC, mCons, mNil, mTup, fTup, mLst, fLst, mBin, mUn, mCB, mTest, mTru, truF, mAndT, mOrT, mNotT, mAnd, mOr, mNot, mIf, mChain, map_p_nil, map_p_cons, deepV_p, okq_non, okq_bl, okq_int, okq_str, okq_tup, okq_lst, okqs_nil, okqs_cons, fEq_ii, fNe_ii, fEq_ss, fNe_ss, at0, at1, at2, at3, at4, seqOf_tup, seqOf_lst, seqOf_ref, listOf_lst, listOf_ref, fIx_tup, fIx_lst, fIx_ref, ix10, ix20, ix21, ix30, ix31, ix32, ix40, ix41, ix42, ix43, ix50, ix51, ix52, ix53, ix54, ix60, ix61, ix62, ix63, ix64, ix65, ix70, ix71, ix72, ix73, ix74, ix75, ix76, ix80, ix81, ix82, ix83, ix84, ix85, ix86, ix87, fI, fSub, fDiv, fMod, fPow, fNeg, fLt, fLe, fGt, fGe, fOrd, fGcd, fAbs, fInt, fLen, fStr, fIs, fIsNot, isNon, fAdd, fMul, fIsi, tyOfD, tyNm, fAppend, mBM, mBM0, isL, DL.listOf, sSetItem, fSetItem, sPar, sAsg, tgName, tgTup, tgNil, tgCons, kit_ii, kit_bi, kit_ni, kit_si, kit_ti, kit_li, kit_ib, kit_bb, kit_nb, kit_sb, kit_tb, kit_lb, kit_it, kit_bt, kit_nt, kit_st, kit_tt, kit_lt, kit_is, kit_bs, kit_ns, kit_ss, kit_ts, kit_ls, kit_il, kit_bl, kit_nl, kit_sl, kit_tl, kit_ll, mCall, mCallD, callF, pass_nil, pass_p, pass_f, pass_m, callR, nodupB, setCells, yes2, line, range_1, range_2, List.length_cons, List.length_nil, List.getElem?_cons_zero, List.getElem?_cons_succ, List.map_cons, List.map_nil, List.replicate_zero, List.replicate_succ, List.range_zero, List.set_cons_zero, List.set_cons_succ, List.append_nil, List.nil_append, List.cons_append, List.contains_nil, if_true, if_false, ite_true, ite_false, reduceIte, Bool.and_true, Bool.true_and, Bool.not_true, Bool.not_false, Bool.false_and, Bool.and_false, decide_true, decide_false, Nat.reduceLeDiff, Nat.reduceSub, Nat.reduceAdd, Nat.reduceLT, Int.reduceLT, Int.reduceLE, Int.reduceEq, Int.reduceNe, Option.map_some, Option.map_none, Option.bind_some, Option.bind_none, decide_not, ne_eq, not_true_eq_false, not_false_eq_true, reduceCtorEq, and_self, nc0, nc1, nc2, nc3, nc4, nc5, nc6, f__law_divided, m__law_divided, sTry, e, isA_DividedByNought, outOnly]
theorem over_made (h : q.1 ≠ 0) (hp : Cn 1000 p) (hq : Cn 1000 q) : f__law_divided [rat p, rat q] [] = .ok (.tup [.str "made", rat (low (p.1 * q.2) (p.2 * q.1))]) [] := by
  obtain ⟨p1, p2⟩ := p
  obtain ⟨q1, q2⟩ := q
  dsimp only at h
  have b1 : bigC p1 q2 = true := big1 hp.1 hq.2.1
  have b2 : bigC p2 q1 = true := big1 hp.2.1 hq.1
  have hn : p2 * q1 ≠ 0 := Int.mul_ne_zero (by have := hp.2.2; dsimp only at this; omega) h
  have l := lowest_eq (a := p1 * q2) hn (sm2 hp.2.1 hq.1)
  have e : f_ratio_over [rat (p1, p2), rat (q1, q2)] [] = .ok (rat (low (p1 * q2) (p2 * q1))) [] := by
    simp only [runF, entry, initE, fin, finR, frz_p, frz_ref, frzW_nil, frzW_p, frzW_ref, frzW_map, contN, cont, pds, pds_map, mb, eb, sSeq, sSet, sRet, sRetN, sIf, sNext, sExpr, sBreak, sCont, mVar, mC, mCons, mNil, mTup, fTup, mLst, fLst, mBin, mUn, mCB, mTest, mTru, truF, mAndT, mOrT, mNotT, mAnd, mOr, mNot, mIf, mChain, map_p_nil, map_p_cons, deepV_p, okq_non, okq_bl, okq_int, okq_str, okq_tup, okq_lst, okqs_nil, okqs_cons, fEq_ii, fNe_ii, fEq_ss, fNe_ss, at0, at1, at2, at3, at4, seqOf_tup, seqOf_lst, seqOf_ref, listOf_lst, listOf_ref, fIx_tup, fIx_lst, fIx_ref, ix10, ix20, ix21, ix30, ix31, ix32, ix40, ix41, ix42, ix43, ix50, ix51, ix52, ix53, ix54, ix60, ix61, ix62, ix63, ix64, ix65, ix70, ix71, ix72, ix73, ix74, ix75, ix76, ix80, ix81, ix82, ix83, ix84, ix85, ix86, ix87, fI, fSub, fDiv, fMod, fPow, fNeg, fLt, fLe, fGt, fGe, fOrd, fGcd, fAbs, fInt, fLen, fStr, fIs, fIsNot, isNon, fAdd, fMul, fIsi, tyOfD, tyNm, fAppend, mBM, mBM0, isL, DL.listOf, sSetItem, fSetItem, sPar, sAsg, tgName, tgTup, tgNil, tgCons, kit_ii, kit_bi, kit_ni, kit_si, kit_ti, kit_li, kit_ib, kit_bb, kit_nb, kit_sb, kit_tb, kit_lb, kit_it, kit_bt, kit_nt, kit_st, kit_tt, kit_lt, kit_is, kit_bs, kit_ns, kit_ss, kit_ts, kit_ls, kit_il, kit_bl, kit_nl, kit_sl, kit_tl, kit_ll, mCall, mCallD, callF, pass_nil, pass_p, pass_f, pass_m, callR, nodupB, setCells, yes2, line, range_1, range_2, List.length_cons, List.length_nil, List.getElem?_cons_zero, List.getElem?_cons_succ, List.map_cons, List.map_nil, List.replicate_zero, List.replicate_succ, List.range_zero, List.set_cons_zero, List.set_cons_succ, List.append_nil, List.nil_append, List.cons_append, List.contains_nil, if_true, if_false, ite_true, ite_false, reduceIte, Bool.and_true, Bool.true_and, Bool.not_true, Bool.not_false, Bool.false_and, Bool.and_false, decide_true, decide_false, Nat.reduceLeDiff, Nat.reduceSub, Nat.reduceAdd, Nat.reduceLT, Int.reduceLT, Int.reduceLE, Int.reduceEq, Int.reduceNe, Option.map_some, Option.map_none, Option.bind_some, Option.bind_none, decide_not, ne_eq, not_true_eq_false, not_false_eq_true, reduceCtorEq, and_self, nc0, nc1, nc2, nc3, nc4, nc5, nc6, f_ratio_over, m_ratio_over, rat, h, b1, b2, l]
  simp only [runF, entry, initE, fin, finR, frz_p, frz_ref, frzW_nil, frzW_p, frzW_ref, frzW_map, contN, cont, pds, pds_map, mb, eb, sSeq, sSet, sRet, sRetN, sIf, sNext, sExpr, sBreak, sCont, mVar, mC, mCons, mNil, mTup, fTup, mLst, fLst, mBin, mUn, mCB, mTest, mTru, truF, mAndT, mOrT, mNotT, mAnd, mOr, mNot, mIf, mChain, map_p_nil, map_p_cons, deepV_p, okq_non, okq_bl, okq_int, okq_str, okq_tup, okq_lst, okqs_nil, okqs_cons, fEq_ii, fNe_ii, fEq_ss, fNe_ss, at0, at1, at2, at3, at4, seqOf_tup, seqOf_lst, seqOf_ref, listOf_lst, listOf_ref, fIx_tup, fIx_lst, fIx_ref, ix10, ix20, ix21, ix30, ix31, ix32, ix40, ix41, ix42, ix43, ix50, ix51, ix52, ix53, ix54, ix60, ix61, ix62, ix63, ix64, ix65, ix70, ix71, ix72, ix73, ix74, ix75, ix76, ix80, ix81, ix82, ix83, ix84, ix85, ix86, ix87, fI, fSub, fDiv, fMod, fPow, fNeg, fLt, fLe, fGt, fGe, fOrd, fGcd, fAbs, fInt, fLen, fStr, fIs, fIsNot, isNon, fAdd, fMul, fIsi, tyOfD, tyNm, fAppend, mBM, mBM0, isL, DL.listOf, sSetItem, fSetItem, sPar, sAsg, tgName, tgTup, tgNil, tgCons, kit_ii, kit_bi, kit_ni, kit_si, kit_ti, kit_li, kit_ib, kit_bb, kit_nb, kit_sb, kit_tb, kit_lb, kit_it, kit_bt, kit_nt, kit_st, kit_tt, kit_lt, kit_is, kit_bs, kit_ns, kit_ss, kit_ts, kit_ls, kit_il, kit_bl, kit_nl, kit_sl, kit_tl, kit_ll, mCall, mCallD, callF, pass_nil, pass_p, pass_f, pass_m, callR, nodupB, setCells, yes2, line, range_1, range_2, List.length_cons, List.length_nil, List.getElem?_cons_zero, List.getElem?_cons_succ, List.map_cons, List.map_nil, List.replicate_zero, List.replicate_succ, List.range_zero, List.set_cons_zero, List.set_cons_succ, List.append_nil, List.nil_append, List.cons_append, List.contains_nil, if_true, if_false, ite_true, ite_false, reduceIte, Bool.and_true, Bool.true_and, Bool.not_true, Bool.not_false, Bool.false_and, Bool.and_false, decide_true, decide_false, Nat.reduceLeDiff, Nat.reduceSub, Nat.reduceAdd, Nat.reduceLT, Int.reduceLT, Int.reduceLE, Int.reduceEq, Int.reduceNe, Option.map_some, Option.map_none, Option.bind_some, Option.bind_none, decide_not, ne_eq, not_true_eq_false, not_false_eq_true, reduceCtorEq, and_self, nc0, nc1, nc2, nc3, nc4, nc5, nc6, f__law_divided, m__law_divided, sTry, e]
def txt (p : Int × Int) : Str := if p.2 = 1 then toString p.1 else Str.ofString (toString p.1) ++ Str.ofString "/" ++ Str.ofString (toString p.2)
theorem int_len {i : Int} (h : Sm 1000 i) : (Str.ofString (toString i)).length ≤ 1001 := by
  rw [PySem.ofString_length]
  exact int_text_length_le (k := 1000) (by decide) (h.log (by decide))
theorem text_eq (hp : Cn 1000 p) : f_ratio_text [rat p] [] = .ok (.str (txt p)) [] ∧ f__law_text [rat p] [] = .ok (.str (txt p)) [] := by
  obtain ⟨p1, p2⟩ := p
  have l1 : p1.natAbs.log2 < 1920 := Nat.lt_of_lt_of_le (hp.1.log (by decide)) (by decide)
  have l2 : p2.natAbs.log2 < 1920 := Nat.lt_of_lt_of_le (hp.2.1.log (by decide)) (by decide)
  have n1 := int_len hp.1
  have n2 := int_len hp.2.1
  dsimp only at n1 n2
  have n3 : (Str.ofString "/").length = 1 := by decide +kernel
  have e1 : (Str.ofString (toString p1)).length + (Str.ofString "/").length ≤ 16777216 := by omega
  have e2 : (Str.ofString (toString p1) ++ Str.ofString "/").length + (Str.ofString (toString p2)).length ≤ 16777216 := by
    rw [PyProof.Rows.len_cat]; omega
  by_cases h : p2 = 1
  · have dh : decide (p2 = 1) = true := decide_eq_true h
    unfold txt
    dsimp only
    rw [if_pos h]
    constructor
    · simp only [runF, entry, initE, fin, finR, frz_p, frz_ref, frzW_nil, frzW_p, frzW_ref, frzW_map, contN, cont, pds, pds_map, mb, eb, sSeq, sSet, sRet, sRetN, sIf, sNext, sExpr, sBreak, sCont, mVar, mC, mCons, mNil, mTup, fTup, mLst, fLst, mBin, mUn, mCB, mTest, mTru, truF, mAndT, mOrT, mNotT, mAnd, mOr, mNot, mIf, mChain, map_p_nil, map_p_cons, deepV_p, okq_non, okq_bl, okq_int, okq_str, okq_tup, okq_lst, okqs_nil, okqs_cons, fEq_ii, fNe_ii, fEq_ss, fNe_ss, at0, at1, at2, at3, at4, seqOf_tup, seqOf_lst, seqOf_ref, listOf_lst, listOf_ref, fIx_tup, fIx_lst, fIx_ref, ix10, ix20, ix21, ix30, ix31, ix32, ix40, ix41, ix42, ix43, ix50, ix51, ix52, ix53, ix54, ix60, ix61, ix62, ix63, ix64, ix65, ix70, ix71, ix72, ix73, ix74, ix75, ix76, ix80, ix81, ix82, ix83, ix84, ix85, ix86, ix87, fI, fSub, fDiv, fMod, fPow, fNeg, fLt, fLe, fGt, fGe, fOrd, fGcd, fAbs, fInt, fLen, fStr, fIs, fIsNot, isNon, fAdd, fMul, fIsi, tyOfD, tyNm, fAppend, mBM, mBM0, isL, DL.listOf, sSetItem, fSetItem, sPar, sAsg, tgName, tgTup, tgNil, tgCons, kit_ii, kit_bi, kit_ni, kit_si, kit_ti, kit_li, kit_ib, kit_bb, kit_nb, kit_sb, kit_tb, kit_lb, kit_it, kit_bt, kit_nt, kit_st, kit_tt, kit_lt, kit_is, kit_bs, kit_ns, kit_ss, kit_ts, kit_ls, kit_il, kit_bl, kit_nl, kit_sl, kit_tl, kit_ll, mCall, mCallD, callF, pass_nil, pass_p, pass_f, pass_m, callR, nodupB, setCells, yes2, line, range_1, range_2, List.length_cons, List.length_nil, List.getElem?_cons_zero, List.getElem?_cons_succ, List.map_cons, List.map_nil, List.replicate_zero, List.replicate_succ, List.range_zero, List.set_cons_zero, List.set_cons_succ, List.append_nil, List.nil_append, List.cons_append, List.contains_nil, if_true, if_false, ite_true, ite_false, reduceIte, Bool.and_true, Bool.true_and, Bool.not_true, Bool.not_false, Bool.false_and, Bool.and_false, decide_true, decide_false, Nat.reduceLeDiff, Nat.reduceSub, Nat.reduceAdd, Nat.reduceLT, Int.reduceLT, Int.reduceLE, Int.reduceEq, Int.reduceNe, Option.map_some, Option.map_none, Option.bind_some, Option.bind_none, decide_not, ne_eq, not_true_eq_false, not_false_eq_true, reduceCtorEq, and_self, nc0, nc1, nc2, nc3, nc4, nc5, nc6, f_ratio_text, m_ratio_text, rat, dh, l1]
    · simp only [runF, entry, initE, fin, finR, frz_p, frz_ref, frzW_nil, frzW_p, frzW_ref, frzW_map, contN, cont, pds, pds_map, mb, eb, sSeq, sSet, sRet, sRetN, sIf, sNext, sExpr, sBreak, sCont, mVar, mC, mCons, mNil, mTup, fTup, mLst, fLst, mBin, mUn, mCB, mTest, mTru, truF, mAndT, mOrT, mNotT, mAnd, mOr, mNot, mIf, mChain, map_p_nil, map_p_cons, deepV_p, okq_non, okq_bl, okq_int, okq_str, okq_tup, okq_lst, okqs_nil, okqs_cons, fEq_ii, fNe_ii, fEq_ss, fNe_ss, at0, at1, at2, at3, at4, seqOf_tup, seqOf_lst, seqOf_ref, listOf_lst, listOf_ref, fIx_tup, fIx_lst, fIx_ref, ix10, ix20, ix21, ix30, ix31, ix32, ix40, ix41, ix42, ix43, ix50, ix51, ix52, ix53, ix54, ix60, ix61, ix62, ix63, ix64, ix65, ix70, ix71, ix72, ix73, ix74, ix75, ix76, ix80, ix81, ix82, ix83, ix84, ix85, ix86, ix87, fI, fSub, fDiv, fMod, fPow, fNeg, fLt, fLe, fGt, fGe, fOrd, fGcd, fAbs, fInt, fLen, fStr, fIs, fIsNot, isNon, fAdd, fMul, fIsi, tyOfD, tyNm, fAppend, mBM, mBM0, isL, DL.listOf, sSetItem, fSetItem, sPar, sAsg, tgName, tgTup, tgNil, tgCons, kit_ii, kit_bi, kit_ni, kit_si, kit_ti, kit_li, kit_ib, kit_bb, kit_nb, kit_sb, kit_tb, kit_lb, kit_it, kit_bt, kit_nt, kit_st, kit_tt, kit_lt, kit_is, kit_bs, kit_ns, kit_ss, kit_ts, kit_ls, kit_il, kit_bl, kit_nl, kit_sl, kit_tl, kit_ll, mCall, mCallD, callF, pass_nil, pass_p, pass_f, pass_m, callR, nodupB, setCells, yes2, line, range_1, range_2, List.length_cons, List.length_nil, List.getElem?_cons_zero, List.getElem?_cons_succ, List.map_cons, List.map_nil, List.replicate_zero, List.replicate_succ, List.range_zero, List.set_cons_zero, List.set_cons_succ, List.append_nil, List.nil_append, List.cons_append, List.contains_nil, if_true, if_false, ite_true, ite_false, reduceIte, Bool.and_true, Bool.true_and, Bool.not_true, Bool.not_false, Bool.false_and, Bool.and_false, decide_true, decide_false, Nat.reduceLeDiff, Nat.reduceSub, Nat.reduceAdd, Nat.reduceLT, Int.reduceLT, Int.reduceLE, Int.reduceEq, Int.reduceNe, Option.map_some, Option.map_none, Option.bind_some, Option.bind_none, decide_not, ne_eq, not_true_eq_false, not_false_eq_true, reduceCtorEq, and_self, nc0, nc1, nc2, nc3, nc4, nc5, nc6, f__law_text, m__law_text, rat, dh, l1]
  · unfold txt
    dsimp only
    rw [if_neg h]
    constructor
    · simp only [runF, entry, initE, fin, finR, frz_p, frz_ref, frzW_nil, frzW_p, frzW_ref, frzW_map, contN, cont, pds, pds_map, mb, eb, sSeq, sSet, sRet, sRetN, sIf, sNext, sExpr, sBreak, sCont, mVar, mC, mCons, mNil, mTup, fTup, mLst, fLst, mBin, mUn, mCB, mTest, mTru, truF, mAndT, mOrT, mNotT, mAnd, mOr, mNot, mIf, mChain, map_p_nil, map_p_cons, deepV_p, okq_non, okq_bl, okq_int, okq_str, okq_tup, okq_lst, okqs_nil, okqs_cons, fEq_ii, fNe_ii, fEq_ss, fNe_ss, at0, at1, at2, at3, at4, seqOf_tup, seqOf_lst, seqOf_ref, listOf_lst, listOf_ref, fIx_tup, fIx_lst, fIx_ref, ix10, ix20, ix21, ix30, ix31, ix32, ix40, ix41, ix42, ix43, ix50, ix51, ix52, ix53, ix54, ix60, ix61, ix62, ix63, ix64, ix65, ix70, ix71, ix72, ix73, ix74, ix75, ix76, ix80, ix81, ix82, ix83, ix84, ix85, ix86, ix87, fI, fSub, fDiv, fMod, fPow, fNeg, fLt, fLe, fGt, fGe, fOrd, fGcd, fAbs, fInt, fLen, fStr, fIs, fIsNot, isNon, fAdd, fMul, fIsi, tyOfD, tyNm, fAppend, mBM, mBM0, isL, DL.listOf, sSetItem, fSetItem, sPar, sAsg, tgName, tgTup, tgNil, tgCons, kit_ii, kit_bi, kit_ni, kit_si, kit_ti, kit_li, kit_ib, kit_bb, kit_nb, kit_sb, kit_tb, kit_lb, kit_it, kit_bt, kit_nt, kit_st, kit_tt, kit_lt, kit_is, kit_bs, kit_ns, kit_ss, kit_ts, kit_ls, kit_il, kit_bl, kit_nl, kit_sl, kit_tl, kit_ll, mCall, mCallD, callF, pass_nil, pass_p, pass_f, pass_m, callR, nodupB, setCells, yes2, line, range_1, range_2, List.length_cons, List.length_nil, List.getElem?_cons_zero, List.getElem?_cons_succ, List.map_cons, List.map_nil, List.replicate_zero, List.replicate_succ, List.range_zero, List.set_cons_zero, List.set_cons_succ, List.append_nil, List.nil_append, List.cons_append, List.contains_nil, if_true, if_false, ite_true, ite_false, reduceIte, Bool.and_true, Bool.true_and, Bool.not_true, Bool.not_false, Bool.false_and, Bool.and_false, decide_true, decide_false, Nat.reduceLeDiff, Nat.reduceSub, Nat.reduceAdd, Nat.reduceLT, Int.reduceLT, Int.reduceLE, Int.reduceEq, Int.reduceNe, Option.map_some, Option.map_none, Option.bind_some, Option.bind_none, decide_not, ne_eq, not_true_eq_false, not_false_eq_true, reduceCtorEq, and_self, nc0, nc1, nc2, nc3, nc4, nc5, nc6, f_ratio_text, m_ratio_text, rat, h, l1, l2, e1, e2]
    · simp only [runF, entry, initE, fin, finR, frz_p, frz_ref, frzW_nil, frzW_p, frzW_ref, frzW_map, contN, cont, pds, pds_map, mb, eb, sSeq, sSet, sRet, sRetN, sIf, sNext, sExpr, sBreak, sCont, mVar, mC, mCons, mNil, mTup, fTup, mLst, fLst, mBin, mUn, mCB, mTest, mTru, truF, mAndT, mOrT, mNotT, mAnd, mOr, mNot, mIf, mChain, map_p_nil, map_p_cons, deepV_p, okq_non, okq_bl, okq_int, okq_str, okq_tup, okq_lst, okqs_nil, okqs_cons, fEq_ii, fNe_ii, fEq_ss, fNe_ss, at0, at1, at2, at3, at4, seqOf_tup, seqOf_lst, seqOf_ref, listOf_lst, listOf_ref, fIx_tup, fIx_lst, fIx_ref, ix10, ix20, ix21, ix30, ix31, ix32, ix40, ix41, ix42, ix43, ix50, ix51, ix52, ix53, ix54, ix60, ix61, ix62, ix63, ix64, ix65, ix70, ix71, ix72, ix73, ix74, ix75, ix76, ix80, ix81, ix82, ix83, ix84, ix85, ix86, ix87, fI, fSub, fDiv, fMod, fPow, fNeg, fLt, fLe, fGt, fGe, fOrd, fGcd, fAbs, fInt, fLen, fStr, fIs, fIsNot, isNon, fAdd, fMul, fIsi, tyOfD, tyNm, fAppend, mBM, mBM0, isL, DL.listOf, sSetItem, fSetItem, sPar, sAsg, tgName, tgTup, tgNil, tgCons, kit_ii, kit_bi, kit_ni, kit_si, kit_ti, kit_li, kit_ib, kit_bb, kit_nb, kit_sb, kit_tb, kit_lb, kit_it, kit_bt, kit_nt, kit_st, kit_tt, kit_lt, kit_is, kit_bs, kit_ns, kit_ss, kit_ts, kit_ls, kit_il, kit_bl, kit_nl, kit_sl, kit_tl, kit_ll, mCall, mCallD, callF, pass_nil, pass_p, pass_f, pass_m, callR, nodupB, setCells, yes2, line, range_1, range_2, List.length_cons, List.length_nil, List.getElem?_cons_zero, List.getElem?_cons_succ, List.map_cons, List.map_nil, List.replicate_zero, List.replicate_succ, List.range_zero, List.set_cons_zero, List.set_cons_succ, List.append_nil, List.nil_append, List.cons_append, List.contains_nil, if_true, if_false, ite_true, ite_false, reduceIte, Bool.and_true, Bool.true_and, Bool.not_true, Bool.not_false, Bool.false_and, Bool.and_false, decide_true, decide_false, Nat.reduceLeDiff, Nat.reduceSub, Nat.reduceAdd, Nat.reduceLT, Int.reduceLT, Int.reduceLE, Int.reduceEq, Int.reduceNe, Option.map_some, Option.map_none, Option.bind_some, Option.bind_none, decide_not, ne_eq, not_true_eq_false, not_false_eq_true, reduceCtorEq, and_self, nc0, nc1, nc2, nc3, nc4, nc5, nc6, f__law_text, m__law_text, rat, h, l1, l2, e1, e2]
end
end K01
namespace K01
open PySem PySem.Spec L2 DL
theorem deepVW_map (k : Nat) (s : DS) : ∀ l : List PD, deepVW (deepV k) s (l.map .p) = some l
  | [] => rfl
  | d :: l => by
    rw [List.map_cons]
    show (deepV k s (.p d)).bind _ = _
    rw [deepV_p]
    show ((deepVW (deepV k) s (l.map .p)).map _) = _
    rw [deepVW_map k s l] <;> rfl
theorem deepV_ref {s : DS} {n k : Nat} {l : List PD} (h : s.cells[n]? = some (.lst (l.map .p))) : deepV (k + 1) s (.ref n) = some (.lst l) := by
  unfold deepV
  dsimp only
  rw [h]
  dsimp only
  rw [deepVW_map] <;> rfl
theorem fNe_refs {s : DS} {n m : Nat} {l : List PD} (h1 : s.cells[n]? = some (.lst (l.map .p))) (h2 : s.cells[m]? = some (.lst (l.map .p))) (ok : PD.okqs 59 l = true) (nb : PD.nbs l = true) : fNe (.ref n) (.ref m) s = .ok (.p (.bl false)) s := by
  unfold fNe eqF
  have e1 : deepV fuel s (.ref n) = some (.lst l) := deepV_ref h1
  have e2 : deepV fuel s (.ref m) = some (.lst l) := deepV_ref h2
  rw [e1, e2]
  dsimp only
  rw [okq_lst, ok]
  simp only [PD.eqv, Bool.and_self, if_true]
  rw [eqvs_refl l nb] <;> rfl
abbrev S (ns : List Int) (a b c d n o7 o8 o9 o10 o11 o12 o13 o14 o15 : Option D) (cs : List Cell) : DS := ⟨[some (.p (.lst (ns.map .int))), some (.ref 0), a, b, c, d, n, o7, o8, o9, o10, o11, o12, o13, o14, o15, none], cs, none⟩
abbrev I (i : Int) : Option D := some (.p (.int i))
abbrev R (p : Int × Int) : Option D := some (.p (rat p))
theorem okq_rat (n : Nat) (p : Int × Int) : (rat p).okq (n + 1) = true := by
  unfold rat
  rw [okq_tup, okqs_cons, okqs_cons, okq_int, okq_int, okqs_nil] <;> rfl
theorem nb_rat (p : Int × Int) : (rat p).nb = true := by simp [rat, PD.nb, PD.nbs]
theorem lpower_loop {p : Int × Int} (hp : Cn 101 p) (s a b c d n o8 o9 o10 o11 : Option D) (cs : List Cell) : ∀ (m k : Nat) (items : List D) (x : Option D), items.length = m → k + m ≤ 6 → ∃ y,
    loop (tgName 13) b1_law items ⟨[s, some (.ref 0), a, b, c, d, n, R p, o8, o9, o10, o11, R (pw p k), x, none, none, none], cs, none⟩ = .nx ⟨[s, some (.ref 0), a, b, c, d, n, R p, o8, o9, o10, o11, R (pw p (k + m)), y, none, none, none], cs, none⟩
  | 0, k, [], x, _, _ => ⟨x, rfl⟩
  | m + 1, k, i :: items, x, hl, hk => by
    have e : f__law_times [rat (pw p k), rat p] [] = .ok (rat (pw p (k + 1))) [] := ltimes_eq ((pw_cn hp k).mono (by omega)) (hp.mono (by decide))
    have ⟨y, ih⟩ := lpower_loop hp s a b c d n o8 o9 o10 o11 cs m (k + 1) items (some i) (by simpa using hl) (by omega)
    refine ⟨y, ?_⟩
    have e2 : k + (m + 1) = k + 1 + m := by omega
    rw [e2]
    refine (loop_nx (s2 := ⟨[s, some (.ref 0), a, b, c, d, n, R p, o8, o9, o10, o11, R (pw p (k + 1)), some i, none, none, none], cs, none⟩) rfl ?_).trans ih
    simp only [runF, entry, initE, fin, finR, frz_p, frz_ref, frzW_nil, frzW_p, frzW_ref, frzW_map, contN, cont, pds, pds_map, mb, eb, sSeq, sSet, sRet, sRetN, sIf, sNext, sExpr, sBreak, sCont, mVar, mC, mCons, mNil, mTup, fTup, mLst, fLst, mBin, mUn, mCB, mTest, mTru, truF, mAndT, mOrT, mNotT, mAnd, mOr, mNot, mIf, mChain, map_p_nil, map_p_cons, deepV_p, okq_non, okq_bl, okq_int, okq_str, okq_tup, okq_lst, okqs_nil, okqs_cons, fEq_ii, fNe_ii, fEq_ss, fNe_ss, at0, at1, at2, at3, at4, seqOf_tup, seqOf_lst, seqOf_ref, listOf_lst, listOf_ref, fIx_tup, fIx_lst, fIx_ref, ix10, ix20, ix21, ix30, ix31, ix32, ix40, ix41, ix42, ix43, ix50, ix51, ix52, ix53, ix54, ix60, ix61, ix62, ix63, ix64, ix65, ix70, ix71, ix72, ix73, ix74, ix75, ix76, ix80, ix81, ix82, ix83, ix84, ix85, ix86, ix87, fI, fSub, fDiv, fMod, fPow, fNeg, fLt, fLe, fGt, fGe, fOrd, fGcd, fAbs, fInt, fLen, fStr, fIs, fIsNot, isNon, fAdd, fMul, fIsi, tyOfD, tyNm, fAppend, mBM, mBM0, isL, DL.listOf, sSetItem, fSetItem, sPar, sAsg, tgName, tgTup, tgNil, tgCons, kit_ii, kit_bi, kit_ni, kit_si, kit_ti, kit_li, kit_ib, kit_bb, kit_nb, kit_sb, kit_tb, kit_lb, kit_it, kit_bt, kit_nt, kit_st, kit_tt, kit_lt, kit_is, kit_bs, kit_ns, kit_ss, kit_ts, kit_ls, kit_il, kit_bl, kit_nl, kit_sl, kit_tl, kit_ll, mCall, mCallD, callF, pass_nil, pass_p, pass_f, pass_m, callR, nodupB, setCells, yes2, line, range_1, range_2, List.length_cons, List.length_nil, List.getElem?_cons_zero, List.getElem?_cons_succ, List.map_cons, List.map_nil, List.replicate_zero, List.replicate_succ, List.range_zero, List.set_cons_zero, List.set_cons_succ, List.append_nil, List.nil_append, List.cons_append, List.contains_nil, if_true, if_false, ite_true, ite_false, reduceIte, Bool.and_true, Bool.true_and, Bool.not_true, Bool.not_false, Bool.false_and, Bool.and_false, decide_true, decide_false, Nat.reduceLeDiff, Nat.reduceSub, Nat.reduceAdd, Nat.reduceLT, Int.reduceLT, Int.reduceLE, Int.reduceEq, Int.reduceNe, Option.map_some, Option.map_none, Option.bind_some, Option.bind_none, decide_not, ne_eq, not_true_eq_false, not_false_eq_true, reduceCtorEq, and_self, nc0, nc1, nc2, nc3, nc4, nc5, nc6, b1_law, e]
theorem ex_seq {m n : DS → SR} {x : D} {s s1 : DS} (h : m s = .nx s1) (k : ∃ s', n s1 = .rt x s') : ∃ s', sSeq m n s = .rt x s' := by
  obtain ⟨s', k⟩ := k
  exact ⟨s', seq_nx h k⟩
theorem law_eq (ns : List Int) (hl : ns.length ≤ 63) : f_law [.lst (ns.map .int)] [] = .ok (.bl true) [] := by
  obtain ⟨l0, e0, H0⟩ := start_eq ns hl
  obtain ⟨a, l1, e1, sa, H1⟩ := number_eq H0 (by decide)
  obtain ⟨b, l2, e2, sb, H2⟩ := number_eq H1 (by decide)
  obtain ⟨c, l3, e3, sc, H3⟩ := number_eq H2 (by decide)
  obtain ⟨d, l4, e4, sd, H4⟩ := number_eq H3 (by decide)
  obtain ⟨n, l5, e5, n0, n6, H5⟩ := draw_eq (many := 6) H4 (by decide) (by decide) (by unfold Sm; decide)
  have ma := madeR_eq (a := a) (b := b) (sb.mono (by decide))
  have mc := madeR_eq (a := c) (b := d) (sd.mono (by decide))
  have oab := oddR_eq (a := a) (b := b) (sa.mono (by decide)) (sb.mono (by decide))
  have wacd := wholeR_eq a c d
  have mk : f_make_ratio [.int c, .int 1] [] = .ok (.tup [.int c, .int 1]) [] := by
    have h := make_ok (a := c) (b := 1) (by decide) (by unfold Sm; decide)
    rw [low_one] at h
    exact h
  have nmk (s : DS) (x : Int) : fNe (.p (.tup [.int x, .int 1])) (.p (.tup [.int x, .int 1])) s = .ok (.p (.bl false)) s := fNe_same _ _ (okq_rat 59 (x, 1)) (nb_rat (x, 1))
  -- the lower parts
  have hb' : ∃ b', (if b = 0 then (1 : Int) else b) = b' := ⟨_, rfl⟩
  obtain ⟨b', hb'⟩ := hb'
  have hd' : ∃ d', (if d = 0 then (1 : Int) else d) = d' := ⟨_, rfl⟩
  obtain ⟨d', hd'⟩ := hd'
  have hb0 : b' ≠ 0 := by split at hb' <;> omega
  have hd0 : d' ≠ 0 := by split at hd' <;> omega
  have sb' : Sm 100 b' := by
    split at hb'
    · subst hb'; exact Sm.one (by decide)
    · subst hb'; exact sb
  have sd' : Sm 100 d' := by
    split at hd'
    · subst hd'; exact Sm.one (by decide)
    · subst hd'; exact sd
  have cp : Cn 101 (low a b') := (Cn.low hb0 sa sb').mono (by decide)
  have cq : Cn 101 (low c d') := (Cn.low hd0 sc sd').mono (by decide)
  have r1 := lratio_eq (a := a) hb0 (sb'.mono (by decide))
  have r2 := lratio_eq (a := c) hd0 (sd'.mono (by decide))
  generalize hp : low a b' = p at *
  generalize hq : low c d' = q at *
  have cp' := cp.mono (l := 1000) (by decide)
  have cq' := cq.mono (l := 1000) (by decide)
  have cn' : Cn 1000 (ngt q) := ⟨cq'.1.neg, cq'.2.1, cq'.2.2⟩
  suffices key : ∃ s', m_law ⟨[some (.p (.lst (ns.map .int))), none, none, none, none, none, none, none, none, none, none, none, none, none, none, none, none], [], none⟩ = .rt (.p (.bl true)) s' by
    obtain ⟨s', key⟩ := key
    simp only [runF, entry, initE, fin, finR, frz_p, frz_ref, frzW_nil, frzW_p, frzW_ref, frzW_map, contN, cont, pds, pds_map, mb, eb, sSeq, sSet, sRet, sRetN, sIf, sNext, sExpr, sBreak, sCont, mVar, mC, mCons, mNil, mTup, fTup, mLst, fLst, mBin, mUn, mCB, mTest, mTru, truF, mAndT, mOrT, mNotT, mAnd, mOr, mNot, mIf, mChain, map_p_nil, map_p_cons, deepV_p, okq_non, okq_bl, okq_int, okq_str, okq_tup, okq_lst, okqs_nil, okqs_cons, fEq_ii, fNe_ii, fEq_ss, fNe_ss, at0, at1, at2, at3, at4, seqOf_tup, seqOf_lst, seqOf_ref, listOf_lst, listOf_ref, fIx_tup, fIx_lst, fIx_ref, ix10, ix20, ix21, ix30, ix31, ix32, ix40, ix41, ix42, ix43, ix50, ix51, ix52, ix53, ix54, ix60, ix61, ix62, ix63, ix64, ix65, ix70, ix71, ix72, ix73, ix74, ix75, ix76, ix80, ix81, ix82, ix83, ix84, ix85, ix86, ix87, fI, fSub, fDiv, fMod, fPow, fNeg, fLt, fLe, fGt, fGe, fOrd, fGcd, fAbs, fInt, fLen, fStr, fIs, fIsNot, isNon, fAdd, fMul, fIsi, tyOfD, tyNm, fAppend, mBM, mBM0, isL, DL.listOf, sSetItem, fSetItem, sPar, sAsg, tgName, tgTup, tgNil, tgCons, kit_ii, kit_bi, kit_ni, kit_si, kit_ti, kit_li, kit_ib, kit_bb, kit_nb, kit_sb, kit_tb, kit_lb, kit_it, kit_bt, kit_nt, kit_st, kit_tt, kit_lt, kit_is, kit_bs, kit_ns, kit_ss, kit_ts, kit_ls, kit_il, kit_bl, kit_nl, kit_sl, kit_tl, kit_ll, mCall, mCallD, callF, pass_nil, pass_p, pass_f, pass_m, callR, nodupB, setCells, yes2, line, range_1, range_2, List.length_cons, List.length_nil, List.getElem?_cons_zero, List.getElem?_cons_succ, List.map_cons, List.map_nil, List.replicate_zero, List.replicate_succ, List.range_zero, List.set_cons_zero, List.set_cons_succ, List.append_nil, List.nil_append, List.cons_append, List.contains_nil, if_true, if_false, ite_true, ite_false, reduceIte, Bool.and_true, Bool.true_and, Bool.not_true, Bool.not_false, Bool.false_and, Bool.and_false, decide_true, decide_false, Nat.reduceLeDiff, Nat.reduceSub, Nat.reduceAdd, Nat.reduceLT, Int.reduceLT, Int.reduceLE, Int.reduceEq, Int.reduceNe, Option.map_some, Option.map_none, Option.bind_some, Option.bind_none, decide_not, ne_eq, not_true_eq_false, not_false_eq_true, reduceCtorEq, and_self, nc0, nc1, nc2, nc3, nc4, nc5, nc6, f_law, key]
  have N3 := n0
  have cell0 : Cell := .lst (l5.map .p)
  have o0 (s : DS) (x : Int × Int) : fIx (.p (rat x)) (.p (.int 0)) s = .ok (.p (.int x.1)) s := by simp only [runF, entry, initE, fin, finR, frz_p, frz_ref, frzW_nil, frzW_p, frzW_ref, frzW_map, contN, cont, pds, pds_map, mb, eb, sSeq, sSet, sRet, sRetN, sIf, sNext, sExpr, sBreak, sCont, mVar, mC, mCons, mNil, mTup, fTup, mLst, fLst, mBin, mUn, mCB, mTest, mTru, truF, mAndT, mOrT, mNotT, mAnd, mOr, mNot, mIf, mChain, map_p_nil, map_p_cons, deepV_p, okq_non, okq_bl, okq_int, okq_str, okq_tup, okq_lst, okqs_nil, okqs_cons, fEq_ii, fNe_ii, fEq_ss, fNe_ss, at0, at1, at2, at3, at4, seqOf_tup, seqOf_lst, seqOf_ref, listOf_lst, listOf_ref, fIx_tup, fIx_lst, fIx_ref, ix10, ix20, ix21, ix30, ix31, ix32, ix40, ix41, ix42, ix43, ix50, ix51, ix52, ix53, ix54, ix60, ix61, ix62, ix63, ix64, ix65, ix70, ix71, ix72, ix73, ix74, ix75, ix76, ix80, ix81, ix82, ix83, ix84, ix85, ix86, ix87, fI, fSub, fDiv, fMod, fPow, fNeg, fLt, fLe, fGt, fGe, fOrd, fGcd, fAbs, fInt, fLen, fStr, fIs, fIsNot, isNon, fAdd, fMul, fIsi, tyOfD, tyNm, fAppend, mBM, mBM0, isL, DL.listOf, sSetItem, fSetItem, sPar, sAsg, tgName, tgTup, tgNil, tgCons, kit_ii, kit_bi, kit_ni, kit_si, kit_ti, kit_li, kit_ib, kit_bb, kit_nb, kit_sb, kit_tb, kit_lb, kit_it, kit_bt, kit_nt, kit_st, kit_tt, kit_lt, kit_is, kit_bs, kit_ns, kit_ss, kit_ts, kit_ls, kit_il, kit_bl, kit_nl, kit_sl, kit_tl, kit_ll, mCall, mCallD, callF, pass_nil, pass_p, pass_f, pass_m, callR, nodupB, setCells, yes2, line, range_1, range_2, List.length_cons, List.length_nil, List.getElem?_cons_zero, List.getElem?_cons_succ, List.map_cons, List.map_nil, List.replicate_zero, List.replicate_succ, List.range_zero, List.set_cons_zero, List.set_cons_succ, List.append_nil, List.nil_append, List.cons_append, List.contains_nil, if_true, if_false, ite_true, ite_false, reduceIte, Bool.and_true, Bool.true_and, Bool.not_true, Bool.not_false, Bool.false_and, Bool.and_false, decide_true, decide_false, Nat.reduceLeDiff, Nat.reduceSub, Nat.reduceAdd, Nat.reduceLT, Int.reduceLT, Int.reduceLE, Int.reduceEq, Int.reduceNe, Option.map_some, Option.map_none, Option.bind_some, Option.bind_none, decide_not, ne_eq, not_true_eq_false, not_false_eq_true, reduceCtorEq, and_self, nc0, nc1, nc2, nc3, nc4, nc5, nc6, rat]
  have o1 (s : DS) (x : Int × Int) : fIx (.p (rat x)) (.p (.int 1)) s = .ok (.p (.int x.2)) s := by simp only [runF, entry, initE, fin, finR, frz_p, frz_ref, frzW_nil, frzW_p, frzW_ref, frzW_map, contN, cont, pds, pds_map, mb, eb, sSeq, sSet, sRet, sRetN, sIf, sNext, sExpr, sBreak, sCont, mVar, mC, mCons, mNil, mTup, fTup, mLst, fLst, mBin, mUn, mCB, mTest, mTru, truF, mAndT, mOrT, mNotT, mAnd, mOr, mNot, mIf, mChain, map_p_nil, map_p_cons, deepV_p, okq_non, okq_bl, okq_int, okq_str, okq_tup, okq_lst, okqs_nil, okqs_cons, fEq_ii, fNe_ii, fEq_ss, fNe_ss, at0, at1, at2, at3, at4, seqOf_tup, seqOf_lst, seqOf_ref, listOf_lst, listOf_ref, fIx_tup, fIx_lst, fIx_ref, ix10, ix20, ix21, ix30, ix31, ix32, ix40, ix41, ix42, ix43, ix50, ix51, ix52, ix53, ix54, ix60, ix61, ix62, ix63, ix64, ix65, ix70, ix71, ix72, ix73, ix74, ix75, ix76, ix80, ix81, ix82, ix83, ix84, ix85, ix86, ix87, fI, fSub, fDiv, fMod, fPow, fNeg, fLt, fLe, fGt, fGe, fOrd, fGcd, fAbs, fInt, fLen, fStr, fIs, fIsNot, isNon, fAdd, fMul, fIsi, tyOfD, tyNm, fAppend, mBM, mBM0, isL, DL.listOf, sSetItem, fSetItem, sPar, sAsg, tgName, tgTup, tgNil, tgCons, kit_ii, kit_bi, kit_ni, kit_si, kit_ti, kit_li, kit_ib, kit_bb, kit_nb, kit_sb, kit_tb, kit_lb, kit_it, kit_bt, kit_nt, kit_st, kit_tt, kit_lt, kit_is, kit_bs, kit_ns, kit_ss, kit_ts, kit_ls, kit_il, kit_bl, kit_nl, kit_sl, kit_tl, kit_ll, mCall, mCallD, callF, pass_nil, pass_p, pass_f, pass_m, callR, nodupB, setCells, yes2, line, range_1, range_2, List.length_cons, List.length_nil, List.getElem?_cons_zero, List.getElem?_cons_succ, List.map_cons, List.map_nil, List.replicate_zero, List.replicate_succ, List.range_zero, List.set_cons_zero, List.set_cons_succ, List.append_nil, List.nil_append, List.cons_append, List.contains_nil, if_true, if_false, ite_true, ite_false, reduceIte, Bool.and_true, Bool.true_and, Bool.not_true, Bool.not_false, Bool.false_and, Bool.and_false, decide_true, decide_false, Nat.reduceLeDiff, Nat.reduceSub, Nat.reduceAdd, Nat.reduceLT, Int.reduceLT, Int.reduceLE, Int.reduceEq, Int.reduceNe, Option.map_some, Option.map_none, Option.bind_some, Option.bind_none, decide_not, ne_eq, not_true_eq_false, not_false_eq_true, reduceCtorEq, and_self, nc0, nc1, nc2, nc3, nc4, nc5, nc6, rat]
  have pl := plus_eq cp' cq'
  have mi := minus_eq cp' cq'
  have ti := times_eq cp' cq'
  have ng := negative_eq (p := p)
  have po := power_eq cp n0 n6
  have lpl := lplus_eq cp' cq'
  have lmi := lplus_eq cp' cn'
  rw [pls_ngt] at lmi
  have lti := ltimes_eq cp' cq'
  have tx1 := text_eq cp'
  have tx2 := text_eq cq'
  have lim : lim62 n = true := by
    have : n = 0 ∨ n = 1 ∨ n = 2 ∨ n = 3 ∨ n = 4 ∨ n = 5 := by omega
    rcases this with rfl | rfl | rfl | rfl | rfl | rfl <;> decide
  have b1 : bigC p.1 q.2 = true := big1 cp'.1 cq'.2.1
  have b2 : bigC q.1 p.2 = true := big1 cq'.1 cp'.2.1
  have b3 : bigC p.2 q.1 = true := big1 cp'.2.1 cq'.1
  unfold m_law
  let C0 : Cell := .lst (l5.map .p)
  let N : List PD := [rat (pls p q), rat (mns p q), rat (tms p q), rat (ngt p)]
  let M : List PD := [rat (pls p q), rat (mns p q), rat (tms p q), rat (ngt p), rat (pw p n.toNat)]
  have okM : PD.okqs 59 M = true := by
    show PD.okqs 59 [_, _, _, _, _] = true
    simp only [okqs_cons, okqs_nil, okq_rat, Bool.and_self]
  have nbM : PD.nbs M = true := by
    show PD.nbs [_, _, _, _, _] = true
    simp only [PD.nbs, nb_rat, Bool.and_self]
  refine ex_seq (s1 := S ns none none none none none none none none none none none none none none [.lst (l0.map .p)]) (by simp only [runF, entry, initE, fin, finR, frz_p, frz_ref, frzW_nil, frzW_p, frzW_ref, frzW_map, contN, cont, pds, pds_map, mb, eb, sSeq, sSet, sRet, sRetN, sIf, sNext, sExpr, sBreak, sCont, mVar, mC, mCons, mNil, mTup, fTup, mLst, fLst, mBin, mUn, mCB, mTest, mTru, truF, mAndT, mOrT, mNotT, mAnd, mOr, mNot, mIf, mChain, map_p_nil, map_p_cons, deepV_p, okq_non, okq_bl, okq_int, okq_str, okq_tup, okq_lst, okqs_nil, okqs_cons, fEq_ii, fNe_ii, fEq_ss, fNe_ss, at0, at1, at2, at3, at4, seqOf_tup, seqOf_lst, seqOf_ref, listOf_lst, listOf_ref, fIx_tup, fIx_lst, fIx_ref, ix10, ix20, ix21, ix30, ix31, ix32, ix40, ix41, ix42, ix43, ix50, ix51, ix52, ix53, ix54, ix60, ix61, ix62, ix63, ix64, ix65, ix70, ix71, ix72, ix73, ix74, ix75, ix76, ix80, ix81, ix82, ix83, ix84, ix85, ix86, ix87, fI, fSub, fDiv, fMod, fPow, fNeg, fLt, fLe, fGt, fGe, fOrd, fGcd, fAbs, fInt, fLen, fStr, fIs, fIsNot, isNon, fAdd, fMul, fIsi, tyOfD, tyNm, fAppend, mBM, mBM0, isL, DL.listOf, sSetItem, fSetItem, sPar, sAsg, tgName, tgTup, tgNil, tgCons, kit_ii, kit_bi, kit_ni, kit_si, kit_ti, kit_li, kit_ib, kit_bb, kit_nb, kit_sb, kit_tb, kit_lb, kit_it, kit_bt, kit_nt, kit_st, kit_tt, kit_lt, kit_is, kit_bs, kit_ns, kit_ss, kit_ts, kit_ls, kit_il, kit_bl, kit_nl, kit_sl, kit_tl, kit_ll, mCall, mCallD, callF, pass_nil, pass_p, pass_f, pass_m, callR, nodupB, setCells, yes2, line, range_1, range_2, List.length_cons, List.length_nil, List.getElem?_cons_zero, List.getElem?_cons_succ, List.map_cons, List.map_nil, List.replicate_zero, List.replicate_succ, List.range_zero, List.set_cons_zero, List.set_cons_succ, List.append_nil, List.nil_append, List.cons_append, List.contains_nil, if_true, if_false, ite_true, ite_false, reduceIte, Bool.and_true, Bool.true_and, Bool.not_true, Bool.not_false, Bool.false_and, Bool.and_false, decide_true, decide_false, Nat.reduceLeDiff, Nat.reduceSub, Nat.reduceAdd, Nat.reduceLT, Int.reduceLT, Int.reduceLE, Int.reduceEq, Int.reduceNe, Option.map_some, Option.map_none, Option.bind_some, Option.bind_none, decide_not, ne_eq, not_true_eq_false, not_false_eq_true, reduceCtorEq, and_self, nc0, nc1, nc2, nc3, nc4, nc5, nc6, S, e0]) ?_
  refine ex_seq (s1 := S ns (I a) none none none none none none none none none none none none none [.lst (l1.map .p)]) (by simp only [runF, entry, initE, fin, finR, frz_p, frz_ref, frzW_nil, frzW_p, frzW_ref, frzW_map, contN, cont, pds, pds_map, mb, eb, sSeq, sSet, sRet, sRetN, sIf, sNext, sExpr, sBreak, sCont, mVar, mC, mCons, mNil, mTup, fTup, mLst, fLst, mBin, mUn, mCB, mTest, mTru, truF, mAndT, mOrT, mNotT, mAnd, mOr, mNot, mIf, mChain, map_p_nil, map_p_cons, deepV_p, okq_non, okq_bl, okq_int, okq_str, okq_tup, okq_lst, okqs_nil, okqs_cons, fEq_ii, fNe_ii, fEq_ss, fNe_ss, at0, at1, at2, at3, at4, seqOf_tup, seqOf_lst, seqOf_ref, listOf_lst, listOf_ref, fIx_tup, fIx_lst, fIx_ref, ix10, ix20, ix21, ix30, ix31, ix32, ix40, ix41, ix42, ix43, ix50, ix51, ix52, ix53, ix54, ix60, ix61, ix62, ix63, ix64, ix65, ix70, ix71, ix72, ix73, ix74, ix75, ix76, ix80, ix81, ix82, ix83, ix84, ix85, ix86, ix87, fI, fSub, fDiv, fMod, fPow, fNeg, fLt, fLe, fGt, fGe, fOrd, fGcd, fAbs, fInt, fLen, fStr, fIs, fIsNot, isNon, fAdd, fMul, fIsi, tyOfD, tyNm, fAppend, mBM, mBM0, isL, DL.listOf, sSetItem, fSetItem, sPar, sAsg, tgName, tgTup, tgNil, tgCons, kit_ii, kit_bi, kit_ni, kit_si, kit_ti, kit_li, kit_ib, kit_bb, kit_nb, kit_sb, kit_tb, kit_lb, kit_it, kit_bt, kit_nt, kit_st, kit_tt, kit_lt, kit_is, kit_bs, kit_ns, kit_ss, kit_ts, kit_ls, kit_il, kit_bl, kit_nl, kit_sl, kit_tl, kit_ll, mCall, mCallD, callF, pass_nil, pass_p, pass_f, pass_m, callR, nodupB, setCells, yes2, line, range_1, range_2, List.length_cons, List.length_nil, List.getElem?_cons_zero, List.getElem?_cons_succ, List.map_cons, List.map_nil, List.replicate_zero, List.replicate_succ, List.range_zero, List.set_cons_zero, List.set_cons_succ, List.append_nil, List.nil_append, List.cons_append, List.contains_nil, if_true, if_false, ite_true, ite_false, reduceIte, Bool.and_true, Bool.true_and, Bool.not_true, Bool.not_false, Bool.false_and, Bool.and_false, decide_true, decide_false, Nat.reduceLeDiff, Nat.reduceSub, Nat.reduceAdd, Nat.reduceLT, Int.reduceLT, Int.reduceLE, Int.reduceEq, Int.reduceNe, Option.map_some, Option.map_none, Option.bind_some, Option.bind_none, decide_not, ne_eq, not_true_eq_false, not_false_eq_true, reduceCtorEq, and_self, nc0, nc1, nc2, nc3, nc4, nc5, nc6, S, I, e1]) ?_
  refine ex_seq (s1 := S ns (I a) (I b) none none none none none none none none none none none none [.lst (l2.map .p)]) (by simp only [runF, entry, initE, fin, finR, frz_p, frz_ref, frzW_nil, frzW_p, frzW_ref, frzW_map, contN, cont, pds, pds_map, mb, eb, sSeq, sSet, sRet, sRetN, sIf, sNext, sExpr, sBreak, sCont, mVar, mC, mCons, mNil, mTup, fTup, mLst, fLst, mBin, mUn, mCB, mTest, mTru, truF, mAndT, mOrT, mNotT, mAnd, mOr, mNot, mIf, mChain, map_p_nil, map_p_cons, deepV_p, okq_non, okq_bl, okq_int, okq_str, okq_tup, okq_lst, okqs_nil, okqs_cons, fEq_ii, fNe_ii, fEq_ss, fNe_ss, at0, at1, at2, at3, at4, seqOf_tup, seqOf_lst, seqOf_ref, listOf_lst, listOf_ref, fIx_tup, fIx_lst, fIx_ref, ix10, ix20, ix21, ix30, ix31, ix32, ix40, ix41, ix42, ix43, ix50, ix51, ix52, ix53, ix54, ix60, ix61, ix62, ix63, ix64, ix65, ix70, ix71, ix72, ix73, ix74, ix75, ix76, ix80, ix81, ix82, ix83, ix84, ix85, ix86, ix87, fI, fSub, fDiv, fMod, fPow, fNeg, fLt, fLe, fGt, fGe, fOrd, fGcd, fAbs, fInt, fLen, fStr, fIs, fIsNot, isNon, fAdd, fMul, fIsi, tyOfD, tyNm, fAppend, mBM, mBM0, isL, DL.listOf, sSetItem, fSetItem, sPar, sAsg, tgName, tgTup, tgNil, tgCons, kit_ii, kit_bi, kit_ni, kit_si, kit_ti, kit_li, kit_ib, kit_bb, kit_nb, kit_sb, kit_tb, kit_lb, kit_it, kit_bt, kit_nt, kit_st, kit_tt, kit_lt, kit_is, kit_bs, kit_ns, kit_ss, kit_ts, kit_ls, kit_il, kit_bl, kit_nl, kit_sl, kit_tl, kit_ll, mCall, mCallD, callF, pass_nil, pass_p, pass_f, pass_m, callR, nodupB, setCells, yes2, line, range_1, range_2, List.length_cons, List.length_nil, List.getElem?_cons_zero, List.getElem?_cons_succ, List.map_cons, List.map_nil, List.replicate_zero, List.replicate_succ, List.range_zero, List.set_cons_zero, List.set_cons_succ, List.append_nil, List.nil_append, List.cons_append, List.contains_nil, if_true, if_false, ite_true, ite_false, reduceIte, Bool.and_true, Bool.true_and, Bool.not_true, Bool.not_false, Bool.false_and, Bool.and_false, decide_true, decide_false, Nat.reduceLeDiff, Nat.reduceSub, Nat.reduceAdd, Nat.reduceLT, Int.reduceLT, Int.reduceLE, Int.reduceEq, Int.reduceNe, Option.map_some, Option.map_none, Option.bind_some, Option.bind_none, decide_not, ne_eq, not_true_eq_false, not_false_eq_true, reduceCtorEq, and_self, nc0, nc1, nc2, nc3, nc4, nc5, nc6, S, I, e2]) ?_
  refine ex_seq (s1 := S ns (I a) (I b) (I c) none none none none none none none none none none none [.lst (l3.map .p)]) (by simp only [runF, entry, initE, fin, finR, frz_p, frz_ref, frzW_nil, frzW_p, frzW_ref, frzW_map, contN, cont, pds, pds_map, mb, eb, sSeq, sSet, sRet, sRetN, sIf, sNext, sExpr, sBreak, sCont, mVar, mC, mCons, mNil, mTup, fTup, mLst, fLst, mBin, mUn, mCB, mTest, mTru, truF, mAndT, mOrT, mNotT, mAnd, mOr, mNot, mIf, mChain, map_p_nil, map_p_cons, deepV_p, okq_non, okq_bl, okq_int, okq_str, okq_tup, okq_lst, okqs_nil, okqs_cons, fEq_ii, fNe_ii, fEq_ss, fNe_ss, at0, at1, at2, at3, at4, seqOf_tup, seqOf_lst, seqOf_ref, listOf_lst, listOf_ref, fIx_tup, fIx_lst, fIx_ref, ix10, ix20, ix21, ix30, ix31, ix32, ix40, ix41, ix42, ix43, ix50, ix51, ix52, ix53, ix54, ix60, ix61, ix62, ix63, ix64, ix65, ix70, ix71, ix72, ix73, ix74, ix75, ix76, ix80, ix81, ix82, ix83, ix84, ix85, ix86, ix87, fI, fSub, fDiv, fMod, fPow, fNeg, fLt, fLe, fGt, fGe, fOrd, fGcd, fAbs, fInt, fLen, fStr, fIs, fIsNot, isNon, fAdd, fMul, fIsi, tyOfD, tyNm, fAppend, mBM, mBM0, isL, DL.listOf, sSetItem, fSetItem, sPar, sAsg, tgName, tgTup, tgNil, tgCons, kit_ii, kit_bi, kit_ni, kit_si, kit_ti, kit_li, kit_ib, kit_bb, kit_nb, kit_sb, kit_tb, kit_lb, kit_it, kit_bt, kit_nt, kit_st, kit_tt, kit_lt, kit_is, kit_bs, kit_ns, kit_ss, kit_ts, kit_ls, kit_il, kit_bl, kit_nl, kit_sl, kit_tl, kit_ll, mCall, mCallD, callF, pass_nil, pass_p, pass_f, pass_m, callR, nodupB, setCells, yes2, line, range_1, range_2, List.length_cons, List.length_nil, List.getElem?_cons_zero, List.getElem?_cons_succ, List.map_cons, List.map_nil, List.replicate_zero, List.replicate_succ, List.range_zero, List.set_cons_zero, List.set_cons_succ, List.append_nil, List.nil_append, List.cons_append, List.contains_nil, if_true, if_false, ite_true, ite_false, reduceIte, Bool.and_true, Bool.true_and, Bool.not_true, Bool.not_false, Bool.false_and, Bool.and_false, decide_true, decide_false, Nat.reduceLeDiff, Nat.reduceSub, Nat.reduceAdd, Nat.reduceLT, Int.reduceLT, Int.reduceLE, Int.reduceEq, Int.reduceNe, Option.map_some, Option.map_none, Option.bind_some, Option.bind_none, decide_not, ne_eq, not_true_eq_false, not_false_eq_true, reduceCtorEq, and_self, nc0, nc1, nc2, nc3, nc4, nc5, nc6, S, I, e3]) ?_
  refine ex_seq (s1 := S ns (I a) (I b) (I c) (I d) none none none none none none none none none none [.lst (l4.map .p)]) (by simp only [runF, entry, initE, fin, finR, frz_p, frz_ref, frzW_nil, frzW_p, frzW_ref, frzW_map, contN, cont, pds, pds_map, mb, eb, sSeq, sSet, sRet, sRetN, sIf, sNext, sExpr, sBreak, sCont, mVar, mC, mCons, mNil, mTup, fTup, mLst, fLst, mBin, mUn, mCB, mTest, mTru, truF, mAndT, mOrT, mNotT, mAnd, mOr, mNot, mIf, mChain, map_p_nil, map_p_cons, deepV_p, okq_non, okq_bl, okq_int, okq_str, okq_tup, okq_lst, okqs_nil, okqs_cons, fEq_ii, fNe_ii, fEq_ss, fNe_ss, at0, at1, at2, at3, at4, seqOf_tup, seqOf_lst, seqOf_ref, listOf_lst, listOf_ref, fIx_tup, fIx_lst, fIx_ref, ix10, ix20, ix21, ix30, ix31, ix32, ix40, ix41, ix42, ix43, ix50, ix51, ix52, ix53, ix54, ix60, ix61, ix62, ix63, ix64, ix65, ix70, ix71, ix72, ix73, ix74, ix75, ix76, ix80, ix81, ix82, ix83, ix84, ix85, ix86, ix87, fI, fSub, fDiv, fMod, fPow, fNeg, fLt, fLe, fGt, fGe, fOrd, fGcd, fAbs, fInt, fLen, fStr, fIs, fIsNot, isNon, fAdd, fMul, fIsi, tyOfD, tyNm, fAppend, mBM, mBM0, isL, DL.listOf, sSetItem, fSetItem, sPar, sAsg, tgName, tgTup, tgNil, tgCons, kit_ii, kit_bi, kit_ni, kit_si, kit_ti, kit_li, kit_ib, kit_bb, kit_nb, kit_sb, kit_tb, kit_lb, kit_it, kit_bt, kit_nt, kit_st, kit_tt, kit_lt, kit_is, kit_bs, kit_ns, kit_ss, kit_ts, kit_ls, kit_il, kit_bl, kit_nl, kit_sl, kit_tl, kit_ll, mCall, mCallD, callF, pass_nil, pass_p, pass_f, pass_m, callR, nodupB, setCells, yes2, line, range_1, range_2, List.length_cons, List.length_nil, List.getElem?_cons_zero, List.getElem?_cons_succ, List.map_cons, List.map_nil, List.replicate_zero, List.replicate_succ, List.range_zero, List.set_cons_zero, List.set_cons_succ, List.append_nil, List.nil_append, List.cons_append, List.contains_nil, if_true, if_false, ite_true, ite_false, reduceIte, Bool.and_true, Bool.true_and, Bool.not_true, Bool.not_false, Bool.false_and, Bool.and_false, decide_true, decide_false, Nat.reduceLeDiff, Nat.reduceSub, Nat.reduceAdd, Nat.reduceLT, Int.reduceLT, Int.reduceLE, Int.reduceEq, Int.reduceNe, Option.map_some, Option.map_none, Option.bind_some, Option.bind_none, decide_not, ne_eq, not_true_eq_false, not_false_eq_true, reduceCtorEq, and_self, nc0, nc1, nc2, nc3, nc4, nc5, nc6, S, I, e4]) ?_
  refine ex_seq (s1 := S ns (I a) (I b) (I c) (I d) (I n) none none none none none none none none none [.lst (l5.map .p)]) (by simp only [runF, entry, initE, fin, finR, frz_p, frz_ref, frzW_nil, frzW_p, frzW_ref, frzW_map, contN, cont, pds, pds_map, mb, eb, sSeq, sSet, sRet, sRetN, sIf, sNext, sExpr, sBreak, sCont, mVar, mC, mCons, mNil, mTup, fTup, mLst, fLst, mBin, mUn, mCB, mTest, mTru, truF, mAndT, mOrT, mNotT, mAnd, mOr, mNot, mIf, mChain, map_p_nil, map_p_cons, deepV_p, okq_non, okq_bl, okq_int, okq_str, okq_tup, okq_lst, okqs_nil, okqs_cons, fEq_ii, fNe_ii, fEq_ss, fNe_ss, at0, at1, at2, at3, at4, seqOf_tup, seqOf_lst, seqOf_ref, listOf_lst, listOf_ref, fIx_tup, fIx_lst, fIx_ref, ix10, ix20, ix21, ix30, ix31, ix32, ix40, ix41, ix42, ix43, ix50, ix51, ix52, ix53, ix54, ix60, ix61, ix62, ix63, ix64, ix65, ix70, ix71, ix72, ix73, ix74, ix75, ix76, ix80, ix81, ix82, ix83, ix84, ix85, ix86, ix87, fI, fSub, fDiv, fMod, fPow, fNeg, fLt, fLe, fGt, fGe, fOrd, fGcd, fAbs, fInt, fLen, fStr, fIs, fIsNot, isNon, fAdd, fMul, fIsi, tyOfD, tyNm, fAppend, mBM, mBM0, isL, DL.listOf, sSetItem, fSetItem, sPar, sAsg, tgName, tgTup, tgNil, tgCons, kit_ii, kit_bi, kit_ni, kit_si, kit_ti, kit_li, kit_ib, kit_bb, kit_nb, kit_sb, kit_tb, kit_lb, kit_it, kit_bt, kit_nt, kit_st, kit_tt, kit_lt, kit_is, kit_bs, kit_ns, kit_ss, kit_ts, kit_ls, kit_il, kit_bl, kit_nl, kit_sl, kit_tl, kit_ll, mCall, mCallD, callF, pass_nil, pass_p, pass_f, pass_m, callR, nodupB, setCells, yes2, line, range_1, range_2, List.length_cons, List.length_nil, List.getElem?_cons_zero, List.getElem?_cons_succ, List.map_cons, List.map_nil, List.replicate_zero, List.replicate_succ, List.range_zero, List.set_cons_zero, List.set_cons_succ, List.append_nil, List.nil_append, List.cons_append, List.contains_nil, if_true, if_false, ite_true, ite_false, reduceIte, Bool.and_true, Bool.true_and, Bool.not_true, Bool.not_false, Bool.false_and, Bool.and_false, decide_true, decide_false, Nat.reduceLeDiff, Nat.reduceSub, Nat.reduceAdd, Nat.reduceLT, Int.reduceLT, Int.reduceLE, Int.reduceEq, Int.reduceNe, Option.map_some, Option.map_none, Option.bind_some, Option.bind_none, decide_not, ne_eq, not_true_eq_false, not_false_eq_true, reduceCtorEq, and_self, nc0, nc1, nc2, nc3, nc4, nc5, nc6, S, I, e5]) ?_
  refine ex_seq (s1 := S ns (I a) (I b) (I c) (I d) (I n) none none none none none none none none none [.lst (l5.map .p)]) (by simp only [runF, entry, initE, fin, finR, frz_p, frz_ref, frzW_nil, frzW_p, frzW_ref, frzW_map, contN, cont, pds, pds_map, mb, eb, sSeq, sSet, sRet, sRetN, sIf, sNext, sExpr, sBreak, sCont, mVar, mC, mCons, mNil, mTup, fTup, mLst, fLst, mBin, mUn, mCB, mTest, mTru, truF, mAndT, mOrT, mNotT, mAnd, mOr, mNot, mIf, mChain, map_p_nil, map_p_cons, deepV_p, okq_non, okq_bl, okq_int, okq_str, okq_tup, okq_lst, okqs_nil, okqs_cons, fEq_ii, fNe_ii, fEq_ss, fNe_ss, at0, at1, at2, at3, at4, seqOf_tup, seqOf_lst, seqOf_ref, listOf_lst, listOf_ref, fIx_tup, fIx_lst, fIx_ref, ix10, ix20, ix21, ix30, ix31, ix32, ix40, ix41, ix42, ix43, ix50, ix51, ix52, ix53, ix54, ix60, ix61, ix62, ix63, ix64, ix65, ix70, ix71, ix72, ix73, ix74, ix75, ix76, ix80, ix81, ix82, ix83, ix84, ix85, ix86, ix87, fI, fSub, fDiv, fMod, fPow, fNeg, fLt, fLe, fGt, fGe, fOrd, fGcd, fAbs, fInt, fLen, fStr, fIs, fIsNot, isNon, fAdd, fMul, fIsi, tyOfD, tyNm, fAppend, mBM, mBM0, isL, DL.listOf, sSetItem, fSetItem, sPar, sAsg, tgName, tgTup, tgNil, tgCons, kit_ii, kit_bi, kit_ni, kit_si, kit_ti, kit_li, kit_ib, kit_bb, kit_nb, kit_sb, kit_tb, kit_lb, kit_it, kit_bt, kit_nt, kit_st, kit_tt, kit_lt, kit_is, kit_bs, kit_ns, kit_ss, kit_ts, kit_ls, kit_il, kit_bl, kit_nl, kit_sl, kit_tl, kit_ll, mCall, mCallD, callF, pass_nil, pass_p, pass_f, pass_m, callR, nodupB, setCells, yes2, line, range_1, range_2, List.length_cons, List.length_nil, List.getElem?_cons_zero, List.getElem?_cons_succ, List.map_cons, List.map_nil, List.replicate_zero, List.replicate_succ, List.range_zero, List.set_cons_zero, List.set_cons_succ, List.append_nil, List.nil_append, List.cons_append, List.contains_nil, if_true, if_false, ite_true, ite_false, reduceIte, Bool.and_true, Bool.true_and, Bool.not_true, Bool.not_false, Bool.false_and, Bool.and_false, decide_true, decide_false, Nat.reduceLeDiff, Nat.reduceSub, Nat.reduceAdd, Nat.reduceLT, Int.reduceLT, Int.reduceLE, Int.reduceEq, Int.reduceNe, Option.map_some, Option.map_none, Option.bind_some, Option.bind_none, decide_not, ne_eq, not_true_eq_false, not_false_eq_true, reduceCtorEq, and_self, nc0, nc1, nc2, nc3, nc4, nc5, nc6, S, I, ma, mc, oab]) ?_
  refine ex_seq (s1 := S ns (I a) (I b) (I c) (I d) (I n) none none none none none none none none none [.lst (l5.map .p)]) (by simp only [runF, entry, initE, fin, finR, frz_p, frz_ref, frzW_nil, frzW_p, frzW_ref, frzW_map, contN, cont, pds, pds_map, mb, eb, sSeq, sSet, sRet, sRetN, sIf, sNext, sExpr, sBreak, sCont, mVar, mC, mCons, mNil, mTup, fTup, mLst, fLst, mBin, mUn, mCB, mTest, mTru, truF, mAndT, mOrT, mNotT, mAnd, mOr, mNot, mIf, mChain, map_p_nil, map_p_cons, deepV_p, okq_non, okq_bl, okq_int, okq_str, okq_tup, okq_lst, okqs_nil, okqs_cons, fEq_ii, fNe_ii, fEq_ss, fNe_ss, at0, at1, at2, at3, at4, seqOf_tup, seqOf_lst, seqOf_ref, listOf_lst, listOf_ref, fIx_tup, fIx_lst, fIx_ref, ix10, ix20, ix21, ix30, ix31, ix32, ix40, ix41, ix42, ix43, ix50, ix51, ix52, ix53, ix54, ix60, ix61, ix62, ix63, ix64, ix65, ix70, ix71, ix72, ix73, ix74, ix75, ix76, ix80, ix81, ix82, ix83, ix84, ix85, ix86, ix87, fI, fSub, fDiv, fMod, fPow, fNeg, fLt, fLe, fGt, fGe, fOrd, fGcd, fAbs, fInt, fLen, fStr, fIs, fIsNot, isNon, fAdd, fMul, fIsi, tyOfD, tyNm, fAppend, mBM, mBM0, isL, DL.listOf, sSetItem, fSetItem, sPar, sAsg, tgName, tgTup, tgNil, tgCons, kit_ii, kit_bi, kit_ni, kit_si, kit_ti, kit_li, kit_ib, kit_bb, kit_nb, kit_sb, kit_tb, kit_lb, kit_it, kit_bt, kit_nt, kit_st, kit_tt, kit_lt, kit_is, kit_bs, kit_ns, kit_ss, kit_ts, kit_ls, kit_il, kit_bl, kit_nl, kit_sl, kit_tl, kit_ll, mCall, mCallD, callF, pass_nil, pass_p, pass_f, pass_m, callR, nodupB, setCells, yes2, line, range_1, range_2, List.length_cons, List.length_nil, List.getElem?_cons_zero, List.getElem?_cons_succ, List.map_cons, List.map_nil, List.replicate_zero, List.replicate_succ, List.range_zero, List.set_cons_zero, List.set_cons_succ, List.append_nil, List.nil_append, List.cons_append, List.contains_nil, if_true, if_false, ite_true, ite_false, reduceIte, Bool.and_true, Bool.true_and, Bool.not_true, Bool.not_false, Bool.false_and, Bool.and_false, decide_true, decide_false, Nat.reduceLeDiff, Nat.reduceSub, Nat.reduceAdd, Nat.reduceLT, Int.reduceLT, Int.reduceLE, Int.reduceEq, Int.reduceNe, Option.map_some, Option.map_none, Option.bind_some, Option.bind_none, decide_not, ne_eq, not_true_eq_false, not_false_eq_true, reduceCtorEq, and_self, nc0, nc1, nc2, nc3, nc4, nc5, nc6, S, I, wacd, mk, nmk, k_ZERO, k_ONE]) ?_
  refine ex_seq (s1 := S ns (I a) (I b) (I c) (I d) (I n) (R p) none none none none none none none none [.lst (l5.map .p)]) (by
    by_cases hz : b = 0
    · rw [if_pos hz] at hb'; subst hb'; simp only [runF, entry, initE, fin, finR, frz_p, frz_ref, frzW_nil, frzW_p, frzW_ref, frzW_map, contN, cont, pds, pds_map, mb, eb, sSeq, sSet, sRet, sRetN, sIf, sNext, sExpr, sBreak, sCont, mVar, mC, mCons, mNil, mTup, fTup, mLst, fLst, mBin, mUn, mCB, mTest, mTru, truF, mAndT, mOrT, mNotT, mAnd, mOr, mNot, mIf, mChain, map_p_nil, map_p_cons, deepV_p, okq_non, okq_bl, okq_int, okq_str, okq_tup, okq_lst, okqs_nil, okqs_cons, fEq_ii, fNe_ii, fEq_ss, fNe_ss, at0, at1, at2, at3, at4, seqOf_tup, seqOf_lst, seqOf_ref, listOf_lst, listOf_ref, fIx_tup, fIx_lst, fIx_ref, ix10, ix20, ix21, ix30, ix31, ix32, ix40, ix41, ix42, ix43, ix50, ix51, ix52, ix53, ix54, ix60, ix61, ix62, ix63, ix64, ix65, ix70, ix71, ix72, ix73, ix74, ix75, ix76, ix80, ix81, ix82, ix83, ix84, ix85, ix86, ix87, fI, fSub, fDiv, fMod, fPow, fNeg, fLt, fLe, fGt, fGe, fOrd, fGcd, fAbs, fInt, fLen, fStr, fIs, fIsNot, isNon, fAdd, fMul, fIsi, tyOfD, tyNm, fAppend, mBM, mBM0, isL, DL.listOf, sSetItem, fSetItem, sPar, sAsg, tgName, tgTup, tgNil, tgCons, kit_ii, kit_bi, kit_ni, kit_si, kit_ti, kit_li, kit_ib, kit_bb, kit_nb, kit_sb, kit_tb, kit_lb, kit_it, kit_bt, kit_nt, kit_st, kit_tt, kit_lt, kit_is, kit_bs, kit_ns, kit_ss, kit_ts, kit_ls, kit_il, kit_bl, kit_nl, kit_sl, kit_tl, kit_ll, mCall, mCallD, callF, pass_nil, pass_p, pass_f, pass_m, callR, nodupB, setCells, yes2, line, range_1, range_2, List.length_cons, List.length_nil, List.getElem?_cons_zero, List.getElem?_cons_succ, List.map_cons, List.map_nil, List.replicate_zero, List.replicate_succ, List.range_zero, List.set_cons_zero, List.set_cons_succ, List.append_nil, List.nil_append, List.cons_append, List.contains_nil, if_true, if_false, ite_true, ite_false, reduceIte, Bool.and_true, Bool.true_and, Bool.not_true, Bool.not_false, Bool.false_and, Bool.and_false, decide_true, decide_false, Nat.reduceLeDiff, Nat.reduceSub, Nat.reduceAdd, Nat.reduceLT, Int.reduceLT, Int.reduceLE, Int.reduceEq, Int.reduceNe, Option.map_some, Option.map_none, Option.bind_some, Option.bind_none, decide_not, ne_eq, not_true_eq_false, not_false_eq_true, reduceCtorEq, and_self, nc0, nc1, nc2, nc3, nc4, nc5, nc6, S, I, R, hz, r1]
    · rw [if_neg hz] at hb'; subst hb'; simp only [runF, entry, initE, fin, finR, frz_p, frz_ref, frzW_nil, frzW_p, frzW_ref, frzW_map, contN, cont, pds, pds_map, mb, eb, sSeq, sSet, sRet, sRetN, sIf, sNext, sExpr, sBreak, sCont, mVar, mC, mCons, mNil, mTup, fTup, mLst, fLst, mBin, mUn, mCB, mTest, mTru, truF, mAndT, mOrT, mNotT, mAnd, mOr, mNot, mIf, mChain, map_p_nil, map_p_cons, deepV_p, okq_non, okq_bl, okq_int, okq_str, okq_tup, okq_lst, okqs_nil, okqs_cons, fEq_ii, fNe_ii, fEq_ss, fNe_ss, at0, at1, at2, at3, at4, seqOf_tup, seqOf_lst, seqOf_ref, listOf_lst, listOf_ref, fIx_tup, fIx_lst, fIx_ref, ix10, ix20, ix21, ix30, ix31, ix32, ix40, ix41, ix42, ix43, ix50, ix51, ix52, ix53, ix54, ix60, ix61, ix62, ix63, ix64, ix65, ix70, ix71, ix72, ix73, ix74, ix75, ix76, ix80, ix81, ix82, ix83, ix84, ix85, ix86, ix87, fI, fSub, fDiv, fMod, fPow, fNeg, fLt, fLe, fGt, fGe, fOrd, fGcd, fAbs, fInt, fLen, fStr, fIs, fIsNot, isNon, fAdd, fMul, fIsi, tyOfD, tyNm, fAppend, mBM, mBM0, isL, DL.listOf, sSetItem, fSetItem, sPar, sAsg, tgName, tgTup, tgNil, tgCons, kit_ii, kit_bi, kit_ni, kit_si, kit_ti, kit_li, kit_ib, kit_bb, kit_nb, kit_sb, kit_tb, kit_lb, kit_it, kit_bt, kit_nt, kit_st, kit_tt, kit_lt, kit_is, kit_bs, kit_ns, kit_ss, kit_ts, kit_ls, kit_il, kit_bl, kit_nl, kit_sl, kit_tl, kit_ll, mCall, mCallD, callF, pass_nil, pass_p, pass_f, pass_m, callR, nodupB, setCells, yes2, line, range_1, range_2, List.length_cons, List.length_nil, List.getElem?_cons_zero, List.getElem?_cons_succ, List.map_cons, List.map_nil, List.replicate_zero, List.replicate_succ, List.range_zero, List.set_cons_zero, List.set_cons_succ, List.append_nil, List.nil_append, List.cons_append, List.contains_nil, if_true, if_false, ite_true, ite_false, reduceIte, Bool.and_true, Bool.true_and, Bool.not_true, Bool.not_false, Bool.false_and, Bool.and_false, decide_true, decide_false, Nat.reduceLeDiff, Nat.reduceSub, Nat.reduceAdd, Nat.reduceLT, Int.reduceLT, Int.reduceLE, Int.reduceEq, Int.reduceNe, Option.map_some, Option.map_none, Option.bind_some, Option.bind_none, decide_not, ne_eq, not_true_eq_false, not_false_eq_true, reduceCtorEq, and_self, nc0, nc1, nc2, nc3, nc4, nc5, nc6, S, I, R, hz, r1]) ?_
  refine ex_seq (s1 := S ns (I a) (I b) (I c) (I d) (I n) (R p) (R q) none none none none none none none [.lst (l5.map .p)]) (by
    by_cases hz : d = 0
    · rw [if_pos hz] at hd'; subst hd'; simp only [runF, entry, initE, fin, finR, frz_p, frz_ref, frzW_nil, frzW_p, frzW_ref, frzW_map, contN, cont, pds, pds_map, mb, eb, sSeq, sSet, sRet, sRetN, sIf, sNext, sExpr, sBreak, sCont, mVar, mC, mCons, mNil, mTup, fTup, mLst, fLst, mBin, mUn, mCB, mTest, mTru, truF, mAndT, mOrT, mNotT, mAnd, mOr, mNot, mIf, mChain, map_p_nil, map_p_cons, deepV_p, okq_non, okq_bl, okq_int, okq_str, okq_tup, okq_lst, okqs_nil, okqs_cons, fEq_ii, fNe_ii, fEq_ss, fNe_ss, at0, at1, at2, at3, at4, seqOf_tup, seqOf_lst, seqOf_ref, listOf_lst, listOf_ref, fIx_tup, fIx_lst, fIx_ref, ix10, ix20, ix21, ix30, ix31, ix32, ix40, ix41, ix42, ix43, ix50, ix51, ix52, ix53, ix54, ix60, ix61, ix62, ix63, ix64, ix65, ix70, ix71, ix72, ix73, ix74, ix75, ix76, ix80, ix81, ix82, ix83, ix84, ix85, ix86, ix87, fI, fSub, fDiv, fMod, fPow, fNeg, fLt, fLe, fGt, fGe, fOrd, fGcd, fAbs, fInt, fLen, fStr, fIs, fIsNot, isNon, fAdd, fMul, fIsi, tyOfD, tyNm, fAppend, mBM, mBM0, isL, DL.listOf, sSetItem, fSetItem, sPar, sAsg, tgName, tgTup, tgNil, tgCons, kit_ii, kit_bi, kit_ni, kit_si, kit_ti, kit_li, kit_ib, kit_bb, kit_nb, kit_sb, kit_tb, kit_lb, kit_it, kit_bt, kit_nt, kit_st, kit_tt, kit_lt, kit_is, kit_bs, kit_ns, kit_ss, kit_ts, kit_ls, kit_il, kit_bl, kit_nl, kit_sl, kit_tl, kit_ll, mCall, mCallD, callF, pass_nil, pass_p, pass_f, pass_m, callR, nodupB, setCells, yes2, line, range_1, range_2, List.length_cons, List.length_nil, List.getElem?_cons_zero, List.getElem?_cons_succ, List.map_cons, List.map_nil, List.replicate_zero, List.replicate_succ, List.range_zero, List.set_cons_zero, List.set_cons_succ, List.append_nil, List.nil_append, List.cons_append, List.contains_nil, if_true, if_false, ite_true, ite_false, reduceIte, Bool.and_true, Bool.true_and, Bool.not_true, Bool.not_false, Bool.false_and, Bool.and_false, decide_true, decide_false, Nat.reduceLeDiff, Nat.reduceSub, Nat.reduceAdd, Nat.reduceLT, Int.reduceLT, Int.reduceLE, Int.reduceEq, Int.reduceNe, Option.map_some, Option.map_none, Option.bind_some, Option.bind_none, decide_not, ne_eq, not_true_eq_false, not_false_eq_true, reduceCtorEq, and_self, nc0, nc1, nc2, nc3, nc4, nc5, nc6, S, I, R, hz, r2]
    · rw [if_neg hz] at hd'; subst hd'; simp only [runF, entry, initE, fin, finR, frz_p, frz_ref, frzW_nil, frzW_p, frzW_ref, frzW_map, contN, cont, pds, pds_map, mb, eb, sSeq, sSet, sRet, sRetN, sIf, sNext, sExpr, sBreak, sCont, mVar, mC, mCons, mNil, mTup, fTup, mLst, fLst, mBin, mUn, mCB, mTest, mTru, truF, mAndT, mOrT, mNotT, mAnd, mOr, mNot, mIf, mChain, map_p_nil, map_p_cons, deepV_p, okq_non, okq_bl, okq_int, okq_str, okq_tup, okq_lst, okqs_nil, okqs_cons, fEq_ii, fNe_ii, fEq_ss, fNe_ss, at0, at1, at2, at3, at4, seqOf_tup, seqOf_lst, seqOf_ref, listOf_lst, listOf_ref, fIx_tup, fIx_lst, fIx_ref, ix10, ix20, ix21, ix30, ix31, ix32, ix40, ix41, ix42, ix43, ix50, ix51, ix52, ix53, ix54, ix60, ix61, ix62, ix63, ix64, ix65, ix70, ix71, ix72, ix73, ix74, ix75, ix76, ix80, ix81, ix82, ix83, ix84, ix85, ix86, ix87, fI, fSub, fDiv, fMod, fPow, fNeg, fLt, fLe, fGt, fGe, fOrd, fGcd, fAbs, fInt, fLen, fStr, fIs, fIsNot, isNon, fAdd, fMul, fIsi, tyOfD, tyNm, fAppend, mBM, mBM0, isL, DL.listOf, sSetItem, fSetItem, sPar, sAsg, tgName, tgTup, tgNil, tgCons, kit_ii, kit_bi, kit_ni, kit_si, kit_ti, kit_li, kit_ib, kit_bb, kit_nb, kit_sb, kit_tb, kit_lb, kit_it, kit_bt, kit_nt, kit_st, kit_tt, kit_lt, kit_is, kit_bs, kit_ns, kit_ss, kit_ts, kit_ls, kit_il, kit_bl, kit_nl, kit_sl, kit_tl, kit_ll, mCall, mCallD, callF, pass_nil, pass_p, pass_f, pass_m, callR, nodupB, setCells, yes2, line, range_1, range_2, List.length_cons, List.length_nil, List.getElem?_cons_zero, List.getElem?_cons_succ, List.map_cons, List.map_nil, List.replicate_zero, List.replicate_succ, List.range_zero, List.set_cons_zero, List.set_cons_succ, List.append_nil, List.nil_append, List.cons_append, List.contains_nil, if_true, if_false, ite_true, ite_false, reduceIte, Bool.and_true, Bool.true_and, Bool.not_true, Bool.not_false, Bool.false_and, Bool.and_false, decide_true, decide_false, Nat.reduceLeDiff, Nat.reduceSub, Nat.reduceAdd, Nat.reduceLT, Int.reduceLT, Int.reduceLE, Int.reduceEq, Int.reduceNe, Option.map_some, Option.map_none, Option.bind_some, Option.bind_none, decide_not, ne_eq, not_true_eq_false, not_false_eq_true, reduceCtorEq, and_self, nc0, nc1, nc2, nc3, nc4, nc5, nc6, S, I, R, hz, r2]) ?_
  refine ex_seq (s1 := S ns (I a) (I b) (I c) (I d) (I n) (R p) (R q) (R (ngt q)) none none none none none none [.lst (l5.map .p)]) (by simp only [runF, entry, initE, fin, finR, frz_p, frz_ref, frzW_nil, frzW_p, frzW_ref, frzW_map, contN, cont, pds, pds_map, mb, eb, sSeq, sSet, sRet, sRetN, sIf, sNext, sExpr, sBreak, sCont, mVar, mC, mCons, mNil, mTup, fTup, mLst, fLst, mBin, mUn, mCB, mTest, mTru, truF, mAndT, mOrT, mNotT, mAnd, mOr, mNot, mIf, mChain, map_p_nil, map_p_cons, deepV_p, okq_non, okq_bl, okq_int, okq_str, okq_tup, okq_lst, okqs_nil, okqs_cons, fEq_ii, fNe_ii, fEq_ss, fNe_ss, at0, at1, at2, at3, at4, seqOf_tup, seqOf_lst, seqOf_ref, listOf_lst, listOf_ref, fIx_tup, fIx_lst, fIx_ref, ix10, ix20, ix21, ix30, ix31, ix32, ix40, ix41, ix42, ix43, ix50, ix51, ix52, ix53, ix54, ix60, ix61, ix62, ix63, ix64, ix65, ix70, ix71, ix72, ix73, ix74, ix75, ix76, ix80, ix81, ix82, ix83, ix84, ix85, ix86, ix87, fI, fSub, fDiv, fMod, fPow, fNeg, fLt, fLe, fGt, fGe, fOrd, fGcd, fAbs, fInt, fLen, fStr, fIs, fIsNot, isNon, fAdd, fMul, fIsi, tyOfD, tyNm, fAppend, mBM, mBM0, isL, DL.listOf, sSetItem, fSetItem, sPar, sAsg, tgName, tgTup, tgNil, tgCons, kit_ii, kit_bi, kit_ni, kit_si, kit_ti, kit_li, kit_ib, kit_bb, kit_nb, kit_sb, kit_tb, kit_lb, kit_it, kit_bt, kit_nt, kit_st, kit_tt, kit_lt, kit_is, kit_bs, kit_ns, kit_ss, kit_ts, kit_ls, kit_il, kit_bl, kit_nl, kit_sl, kit_tl, kit_ll, mCall, mCallD, callF, pass_nil, pass_p, pass_f, pass_m, callR, nodupB, setCells, yes2, line, range_1, range_2, List.length_cons, List.length_nil, List.getElem?_cons_zero, List.getElem?_cons_succ, List.map_cons, List.map_nil, List.replicate_zero, List.replicate_succ, List.range_zero, List.set_cons_zero, List.set_cons_succ, List.append_nil, List.nil_append, List.cons_append, List.contains_nil, if_true, if_false, ite_true, ite_false, reduceIte, Bool.and_true, Bool.true_and, Bool.not_true, Bool.not_false, Bool.false_and, Bool.and_false, decide_true, decide_false, Nat.reduceLeDiff, Nat.reduceSub, Nat.reduceAdd, Nat.reduceLT, Int.reduceLT, Int.reduceLE, Int.reduceEq, Int.reduceNe, Option.map_some, Option.map_none, Option.bind_some, Option.bind_none, decide_not, ne_eq, not_true_eq_false, not_false_eq_true, reduceCtorEq, and_self, nc0, nc1, nc2, nc3, nc4, nc5, nc6, S, I, R, o0, o1] <;> rfl) ?_
  refine ex_seq (s1 := S ns (I a) (I b) (I c) (I d) (I n) (R p) (R q) (R (ngt q)) (some (.ref 1)) none none none none none [.lst (l5.map .p), .lst (N.map .p)]) (by simp only [runF, entry, initE, fin, finR, frz_p, frz_ref, frzW_nil, frzW_p, frzW_ref, frzW_map, contN, cont, pds, pds_map, mb, eb, sSeq, sSet, sRet, sRetN, sIf, sNext, sExpr, sBreak, sCont, mVar, mC, mCons, mNil, mTup, fTup, mLst, fLst, mBin, mUn, mCB, mTest, mTru, truF, mAndT, mOrT, mNotT, mAnd, mOr, mNot, mIf, mChain, map_p_nil, map_p_cons, deepV_p, okq_non, okq_bl, okq_int, okq_str, okq_tup, okq_lst, okqs_nil, okqs_cons, fEq_ii, fNe_ii, fEq_ss, fNe_ss, at0, at1, at2, at3, at4, seqOf_tup, seqOf_lst, seqOf_ref, listOf_lst, listOf_ref, fIx_tup, fIx_lst, fIx_ref, ix10, ix20, ix21, ix30, ix31, ix32, ix40, ix41, ix42, ix43, ix50, ix51, ix52, ix53, ix54, ix60, ix61, ix62, ix63, ix64, ix65, ix70, ix71, ix72, ix73, ix74, ix75, ix76, ix80, ix81, ix82, ix83, ix84, ix85, ix86, ix87, fI, fSub, fDiv, fMod, fPow, fNeg, fLt, fLe, fGt, fGe, fOrd, fGcd, fAbs, fInt, fLen, fStr, fIs, fIsNot, isNon, fAdd, fMul, fIsi, tyOfD, tyNm, fAppend, mBM, mBM0, isL, DL.listOf, sSetItem, fSetItem, sPar, sAsg, tgName, tgTup, tgNil, tgCons, kit_ii, kit_bi, kit_ni, kit_si, kit_ti, kit_li, kit_ib, kit_bb, kit_nb, kit_sb, kit_tb, kit_lb, kit_it, kit_bt, kit_nt, kit_st, kit_tt, kit_lt, kit_is, kit_bs, kit_ns, kit_ss, kit_ts, kit_ls, kit_il, kit_bl, kit_nl, kit_sl, kit_tl, kit_ll, mCall, mCallD, callF, pass_nil, pass_p, pass_f, pass_m, callR, nodupB, setCells, yes2, line, range_1, range_2, List.length_cons, List.length_nil, List.getElem?_cons_zero, List.getElem?_cons_succ, List.map_cons, List.map_nil, List.replicate_zero, List.replicate_succ, List.range_zero, List.set_cons_zero, List.set_cons_succ, List.append_nil, List.nil_append, List.cons_append, List.contains_nil, if_true, if_false, ite_true, ite_false, reduceIte, Bool.and_true, Bool.true_and, Bool.not_true, Bool.not_false, Bool.false_and, Bool.and_false, decide_true, decide_false, Nat.reduceLeDiff, Nat.reduceSub, Nat.reduceAdd, Nat.reduceLT, Int.reduceLT, Int.reduceLE, Int.reduceEq, Int.reduceNe, Option.map_some, Option.map_none, Option.bind_some, Option.bind_none, decide_not, ne_eq, not_true_eq_false, not_false_eq_true, reduceCtorEq, and_self, nc0, nc1, nc2, nc3, nc4, nc5, nc6, S, I, R, pl, mi, ti, ng] <;> rfl) ?_
  refine ex_seq (s1 := S ns (I a) (I b) (I c) (I d) (I n) (R p) (R q) (R (ngt q)) (some (.ref 1)) none none none none none [.lst (l5.map .p), .lst (M.map .p)]) (by simp only [runF, entry, initE, fin, finR, frz_p, frz_ref, frzW_nil, frzW_p, frzW_ref, frzW_map, contN, cont, pds, pds_map, mb, eb, sSeq, sSet, sRet, sRetN, sIf, sNext, sExpr, sBreak, sCont, mVar, mC, mCons, mNil, mTup, fTup, mLst, fLst, mBin, mUn, mCB, mTest, mTru, truF, mAndT, mOrT, mNotT, mAnd, mOr, mNot, mIf, mChain, map_p_nil, map_p_cons, deepV_p, okq_non, okq_bl, okq_int, okq_str, okq_tup, okq_lst, okqs_nil, okqs_cons, fEq_ii, fNe_ii, fEq_ss, fNe_ss, at0, at1, at2, at3, at4, seqOf_tup, seqOf_lst, seqOf_ref, listOf_lst, listOf_ref, fIx_tup, fIx_lst, fIx_ref, ix10, ix20, ix21, ix30, ix31, ix32, ix40, ix41, ix42, ix43, ix50, ix51, ix52, ix53, ix54, ix60, ix61, ix62, ix63, ix64, ix65, ix70, ix71, ix72, ix73, ix74, ix75, ix76, ix80, ix81, ix82, ix83, ix84, ix85, ix86, ix87, fI, fSub, fDiv, fMod, fPow, fNeg, fLt, fLe, fGt, fGe, fOrd, fGcd, fAbs, fInt, fLen, fStr, fIs, fIsNot, isNon, fAdd, fMul, fIsi, tyOfD, tyNm, fAppend, mBM, mBM0, isL, DL.listOf, sSetItem, fSetItem, sPar, sAsg, tgName, tgTup, tgNil, tgCons, kit_ii, kit_bi, kit_ni, kit_si, kit_ti, kit_li, kit_ib, kit_bb, kit_nb, kit_sb, kit_tb, kit_lb, kit_it, kit_bt, kit_nt, kit_st, kit_tt, kit_lt, kit_is, kit_bs, kit_ns, kit_ss, kit_ts, kit_ls, kit_il, kit_bl, kit_nl, kit_sl, kit_tl, kit_ll, mCall, mCallD, callF, pass_nil, pass_p, pass_f, pass_m, callR, nodupB, setCells, yes2, line, range_1, range_2, List.length_cons, List.length_nil, List.getElem?_cons_zero, List.getElem?_cons_succ, List.map_cons, List.map_nil, List.replicate_zero, List.replicate_succ, List.range_zero, List.set_cons_zero, List.set_cons_succ, List.append_nil, List.nil_append, List.cons_append, List.contains_nil, if_true, if_false, ite_true, ite_false, reduceIte, Bool.and_true, Bool.true_and, Bool.not_true, Bool.not_false, Bool.false_and, Bool.and_false, decide_true, decide_false, Nat.reduceLeDiff, Nat.reduceSub, Nat.reduceAdd, Nat.reduceLT, Int.reduceLT, Int.reduceLE, Int.reduceEq, Int.reduceNe, Option.map_some, Option.map_none, Option.bind_some, Option.bind_none, decide_not, ne_eq, not_true_eq_false, not_false_eq_true, reduceCtorEq, and_self, nc0, nc1, nc2, nc3, nc4, nc5, nc6, S, I, R, N, po] <;> rfl) ?_
  refine ex_seq (s1 := S ns (I a) (I b) (I c) (I d) (I n) (R p) (R q) (R (ngt q)) (some (.ref 1)) (some (.ref 2)) none none none none [.lst (l5.map .p), .lst (M.map .p), .lst (N.map .p)]) (by simp only [runF, entry, initE, fin, finR, frz_p, frz_ref, frzW_nil, frzW_p, frzW_ref, frzW_map, contN, cont, pds, pds_map, mb, eb, sSeq, sSet, sRet, sRetN, sIf, sNext, sExpr, sBreak, sCont, mVar, mC, mCons, mNil, mTup, fTup, mLst, fLst, mBin, mUn, mCB, mTest, mTru, truF, mAndT, mOrT, mNotT, mAnd, mOr, mNot, mIf, mChain, map_p_nil, map_p_cons, deepV_p, okq_non, okq_bl, okq_int, okq_str, okq_tup, okq_lst, okqs_nil, okqs_cons, fEq_ii, fNe_ii, fEq_ss, fNe_ss, at0, at1, at2, at3, at4, seqOf_tup, seqOf_lst, seqOf_ref, listOf_lst, listOf_ref, fIx_tup, fIx_lst, fIx_ref, ix10, ix20, ix21, ix30, ix31, ix32, ix40, ix41, ix42, ix43, ix50, ix51, ix52, ix53, ix54, ix60, ix61, ix62, ix63, ix64, ix65, ix70, ix71, ix72, ix73, ix74, ix75, ix76, ix80, ix81, ix82, ix83, ix84, ix85, ix86, ix87, fI, fSub, fDiv, fMod, fPow, fNeg, fLt, fLe, fGt, fGe, fOrd, fGcd, fAbs, fInt, fLen, fStr, fIs, fIsNot, isNon, fAdd, fMul, fIsi, tyOfD, tyNm, fAppend, mBM, mBM0, isL, DL.listOf, sSetItem, fSetItem, sPar, sAsg, tgName, tgTup, tgNil, tgCons, kit_ii, kit_bi, kit_ni, kit_si, kit_ti, kit_li, kit_ib, kit_bb, kit_nb, kit_sb, kit_tb, kit_lb, kit_it, kit_bt, kit_nt, kit_st, kit_tt, kit_lt, kit_is, kit_bs, kit_ns, kit_ss, kit_ts, kit_ls, kit_il, kit_bl, kit_nl, kit_sl, kit_tl, kit_ll, mCall, mCallD, callF, pass_nil, pass_p, pass_f, pass_m, callR, nodupB, setCells, yes2, line, range_1, range_2, List.length_cons, List.length_nil, List.getElem?_cons_zero, List.getElem?_cons_succ, List.map_cons, List.map_nil, List.replicate_zero, List.replicate_succ, List.range_zero, List.set_cons_zero, List.set_cons_succ, List.append_nil, List.nil_append, List.cons_append, List.contains_nil, if_true, if_false, ite_true, ite_false, reduceIte, Bool.and_true, Bool.true_and, Bool.not_true, Bool.not_false, Bool.false_and, Bool.and_false, decide_true, decide_false, Nat.reduceLeDiff, Nat.reduceSub, Nat.reduceAdd, Nat.reduceLT, Int.reduceLT, Int.reduceLE, Int.reduceEq, Int.reduceNe, Option.map_some, Option.map_none, Option.bind_some, Option.bind_none, decide_not, ne_eq, not_true_eq_false, not_false_eq_true, reduceCtorEq, and_self, nc0, nc1, nc2, nc3, nc4, nc5, nc6, S, I, R, lpl, lmi, lti, o0, o1] <;> rfl) ?_
  refine ex_seq (s1 := S ns (I a) (I b) (I c) (I d) (I n) (R p) (R q) (R (ngt q)) (some (.ref 1)) (some (.ref 2)) (R (1, 1)) none none none [.lst (l5.map .p), .lst (M.map .p), .lst (N.map .p)]) (by simp only [runF, entry, initE, fin, finR, frz_p, frz_ref, frzW_nil, frzW_p, frzW_ref, frzW_map, contN, cont, pds, pds_map, mb, eb, sSeq, sSet, sRet, sRetN, sIf, sNext, sExpr, sBreak, sCont, mVar, mC, mCons, mNil, mTup, fTup, mLst, fLst, mBin, mUn, mCB, mTest, mTru, truF, mAndT, mOrT, mNotT, mAnd, mOr, mNot, mIf, mChain, map_p_nil, map_p_cons, deepV_p, okq_non, okq_bl, okq_int, okq_str, okq_tup, okq_lst, okqs_nil, okqs_cons, fEq_ii, fNe_ii, fEq_ss, fNe_ss, at0, at1, at2, at3, at4, seqOf_tup, seqOf_lst, seqOf_ref, listOf_lst, listOf_ref, fIx_tup, fIx_lst, fIx_ref, ix10, ix20, ix21, ix30, ix31, ix32, ix40, ix41, ix42, ix43, ix50, ix51, ix52, ix53, ix54, ix60, ix61, ix62, ix63, ix64, ix65, ix70, ix71, ix72, ix73, ix74, ix75, ix76, ix80, ix81, ix82, ix83, ix84, ix85, ix86, ix87, fI, fSub, fDiv, fMod, fPow, fNeg, fLt, fLe, fGt, fGe, fOrd, fGcd, fAbs, fInt, fLen, fStr, fIs, fIsNot, isNon, fAdd, fMul, fIsi, tyOfD, tyNm, fAppend, mBM, mBM0, isL, DL.listOf, sSetItem, fSetItem, sPar, sAsg, tgName, tgTup, tgNil, tgCons, kit_ii, kit_bi, kit_ni, kit_si, kit_ti, kit_li, kit_ib, kit_bb, kit_nb, kit_sb, kit_tb, kit_lb, kit_it, kit_bt, kit_nt, kit_st, kit_tt, kit_lt, kit_is, kit_bs, kit_ns, kit_ss, kit_ts, kit_ls, kit_il, kit_bl, kit_nl, kit_sl, kit_tl, kit_ll, mCall, mCallD, callF, pass_nil, pass_p, pass_f, pass_m, callR, nodupB, setCells, yes2, line, range_1, range_2, List.length_cons, List.length_nil, List.getElem?_cons_zero, List.getElem?_cons_succ, List.map_cons, List.map_nil, List.replicate_zero, List.replicate_succ, List.range_zero, List.set_cons_zero, List.set_cons_succ, List.append_nil, List.nil_append, List.cons_append, List.contains_nil, if_true, if_false, ite_true, ite_false, reduceIte, Bool.and_true, Bool.true_and, Bool.not_true, Bool.not_false, Bool.false_and, Bool.and_false, decide_true, decide_false, Nat.reduceLeDiff, Nat.reduceSub, Nat.reduceAdd, Nat.reduceLT, Int.reduceLT, Int.reduceLE, Int.reduceEq, Int.reduceNe, Option.map_some, Option.map_none, Option.bind_some, Option.bind_none, decide_not, ne_eq, not_true_eq_false, not_false_eq_true, reduceCtorEq, and_self, nc0, nc1, nc2, nc3, nc4, nc5, nc6, S, I, R] <;> rfl) ?_
  obtain ⟨y, ey⟩ := lpower_loop cp (some (.p (.lst (ns.map .int)))) (I a) (I b) (I c) (I d) (I n) (R q) (R (ngt q)) (some (.ref 1)) (some (.ref 2)) [.lst (l5.map .p), .lst (M.map .p), .lst (N.map .p)] n.toNat 0 (rng 0 n.toNat) none rng_len (by omega)
  rw [Nat.zero_add] at ey
  refine ex_seq (s1 := S ns (I a) (I b) (I c) (I d) (I n) (R p) (R q) (R (ngt q)) (some (.ref 1)) (some (.ref 2)) (R (pw p n.toNat)) y none none [.lst (l5.map .p), .lst (M.map .p), .lst (N.map .p)]) (for_ok (items := rng 0 n.toNat) (by simp only [runF, entry, initE, fin, finR, frz_p, frz_ref, frzW_nil, frzW_p, frzW_ref, frzW_map, contN, cont, pds, pds_map, mb, eb, sSeq, sSet, sRet, sRetN, sIf, sNext, sExpr, sBreak, sCont, mVar, mC, mCons, mNil, mTup, fTup, mLst, fLst, mBin, mUn, mCB, mTest, mTru, truF, mAndT, mOrT, mNotT, mAnd, mOr, mNot, mIf, mChain, map_p_nil, map_p_cons, deepV_p, okq_non, okq_bl, okq_int, okq_str, okq_tup, okq_lst, okqs_nil, okqs_cons, fEq_ii, fNe_ii, fEq_ss, fNe_ss, at0, at1, at2, at3, at4, seqOf_tup, seqOf_lst, seqOf_ref, listOf_lst, listOf_ref, fIx_tup, fIx_lst, fIx_ref, ix10, ix20, ix21, ix30, ix31, ix32, ix40, ix41, ix42, ix43, ix50, ix51, ix52, ix53, ix54, ix60, ix61, ix62, ix63, ix64, ix65, ix70, ix71, ix72, ix73, ix74, ix75, ix76, ix80, ix81, ix82, ix83, ix84, ix85, ix86, ix87, fI, fSub, fDiv, fMod, fPow, fNeg, fLt, fLe, fGt, fGe, fOrd, fGcd, fAbs, fInt, fLen, fStr, fIs, fIsNot, isNon, fAdd, fMul, fIsi, tyOfD, tyNm, fAppend, mBM, mBM0, isL, DL.listOf, sSetItem, fSetItem, sPar, sAsg, tgName, tgTup, tgNil, tgCons, kit_ii, kit_bi, kit_ni, kit_si, kit_ti, kit_li, kit_ib, kit_bb, kit_nb, kit_sb, kit_tb, kit_lb, kit_it, kit_bt, kit_nt, kit_st, kit_tt, kit_lt, kit_is, kit_bs, kit_ns, kit_ss, kit_ts, kit_ls, kit_il, kit_bl, kit_nl, kit_sl, kit_tl, kit_ll, mCall, mCallD, callF, pass_nil, pass_p, pass_f, pass_m, callR, nodupB, setCells, yes2, line, range_1, range_2, List.length_cons, List.length_nil, List.getElem?_cons_zero, List.getElem?_cons_succ, List.map_cons, List.map_nil, List.replicate_zero, List.replicate_succ, List.range_zero, List.set_cons_zero, List.set_cons_succ, List.append_nil, List.nil_append, List.cons_append, List.contains_nil, if_true, if_false, ite_true, ite_false, reduceIte, Bool.and_true, Bool.true_and, Bool.not_true, Bool.not_false, Bool.false_and, Bool.and_false, decide_true, decide_false, Nat.reduceLeDiff, Nat.reduceSub, Nat.reduceAdd, Nat.reduceLT, Int.reduceLT, Int.reduceLE, Int.reduceEq, Int.reduceNe, Option.map_some, Option.map_none, Option.bind_some, Option.bind_none, decide_not, ne_eq, not_true_eq_false, not_false_eq_true, reduceCtorEq, and_self, nc0, nc1, nc2, nc3, nc4, nc5, nc6, S, I, fRng1, lim] <;> rfl) ey) ?_
  refine ex_seq (s1 := S ns (I a) (I b) (I c) (I d) (I n) (R p) (R q) (R (ngt q)) (some (.ref 1)) (some (.ref 2)) (R (pw p n.toNat)) y none none [.lst (l5.map .p), .lst (M.map .p), .lst (M.map .p)]) (by simp only [runF, entry, initE, fin, finR, frz_p, frz_ref, frzW_nil, frzW_p, frzW_ref, frzW_map, contN, cont, pds, pds_map, mb, eb, sSeq, sSet, sRet, sRetN, sIf, sNext, sExpr, sBreak, sCont, mVar, mC, mCons, mNil, mTup, fTup, mLst, fLst, mBin, mUn, mCB, mTest, mTru, truF, mAndT, mOrT, mNotT, mAnd, mOr, mNot, mIf, mChain, map_p_nil, map_p_cons, deepV_p, okq_non, okq_bl, okq_int, okq_str, okq_tup, okq_lst, okqs_nil, okqs_cons, fEq_ii, fNe_ii, fEq_ss, fNe_ss, at0, at1, at2, at3, at4, seqOf_tup, seqOf_lst, seqOf_ref, listOf_lst, listOf_ref, fIx_tup, fIx_lst, fIx_ref, ix10, ix20, ix21, ix30, ix31, ix32, ix40, ix41, ix42, ix43, ix50, ix51, ix52, ix53, ix54, ix60, ix61, ix62, ix63, ix64, ix65, ix70, ix71, ix72, ix73, ix74, ix75, ix76, ix80, ix81, ix82, ix83, ix84, ix85, ix86, ix87, fI, fSub, fDiv, fMod, fPow, fNeg, fLt, fLe, fGt, fGe, fOrd, fGcd, fAbs, fInt, fLen, fStr, fIs, fIsNot, isNon, fAdd, fMul, fIsi, tyOfD, tyNm, fAppend, mBM, mBM0, isL, DL.listOf, sSetItem, fSetItem, sPar, sAsg, tgName, tgTup, tgNil, tgCons, kit_ii, kit_bi, kit_ni, kit_si, kit_ti, kit_li, kit_ib, kit_bb, kit_nb, kit_sb, kit_tb, kit_lb, kit_it, kit_bt, kit_nt, kit_st, kit_tt, kit_lt, kit_is, kit_bs, kit_ns, kit_ss, kit_ts, kit_ls, kit_il, kit_bl, kit_nl, kit_sl, kit_tl, kit_ll, mCall, mCallD, callF, pass_nil, pass_p, pass_f, pass_m, callR, nodupB, setCells, yes2, line, range_1, range_2, List.length_cons, List.length_nil, List.getElem?_cons_zero, List.getElem?_cons_succ, List.map_cons, List.map_nil, List.replicate_zero, List.replicate_succ, List.range_zero, List.set_cons_zero, List.set_cons_succ, List.append_nil, List.nil_append, List.cons_append, List.contains_nil, if_true, if_false, ite_true, ite_false, reduceIte, Bool.and_true, Bool.true_and, Bool.not_true, Bool.not_false, Bool.false_and, Bool.and_false, decide_true, decide_false, Nat.reduceLeDiff, Nat.reduceSub, Nat.reduceAdd, Nat.reduceLT, Int.reduceLT, Int.reduceLE, Int.reduceEq, Int.reduceNe, Option.map_some, Option.map_none, Option.bind_some, Option.bind_none, decide_not, ne_eq, not_true_eq_false, not_false_eq_true, reduceCtorEq, and_self, nc0, nc1, nc2, nc3, nc4, nc5, nc6, S, I, R, N] <;> rfl) ?_
  -- the two lists are alike, and hold ratios
  have nr : fNe (.ref 1) (.ref 2) (S ns (I a) (I b) (I c) (I d) (I n) (R p) (R q) (R (ngt q)) (some (.ref 1)) (some (.ref 2)) (R (pw p n.toNat)) y none none [.lst (l5.map .p), .lst (M.map .p), .lst (M.map .p)]) = .ok (.p (.bl false)) _ := fNe_refs (l := M) rfl rfl okM nbM
  have al : ∃ cs, l1_law (S ns (I a) (I b) (I c) (I d) (I n) (R p) (R q) (R (ngt q)) (some (.ref 1)) (some (.ref 2)) (R (pw p n.toNat)) y none none [.lst (l5.map .p), .lst (M.map .p), .lst (M.map .p)]) = .ok (.ref 3) (S ns (I a) (I b) (I c) (I d) (I n) (R p) (R q) (R (ngt q)) (some (.ref 1)) (some (.ref 2)) (R (pw p n.toNat)) y none none (cs ++ [.lst [.p (.bl true), .p (.bl true), .p (.bl true), .p (.bl true), .p (.bl true)]])) ∧ cs.length = 3 := by
    refine ⟨[.lst (l5.map .p), .froz (.lst M), .lst (M.map .p)], ?_, rfl⟩
    refine (mLc_map (g := fun _ => .bl true) (ds := M) (s1 := S ns (I a) (I b) (I c) (I d) (I n) (R p) (R q) (R (ngt q)) (some (.ref 1)) (some (.ref 2)) (R (pw p n.toNat)) y none none [.lst (l5.map .p), .froz (.lst M), .lst (M.map .p)]) ?_ rfl ?_ (show 5 ≤ line by unfold line; decide)).trans rfl
    · simp only [runF, entry, initE, fin, finR, frz_p, frz_ref, frzW_nil, frzW_p, frzW_ref, frzW_map, contN, cont, pds, pds_map, mb, eb, sSeq, sSet, sRet, sRetN, sIf, sNext, sExpr, sBreak, sCont, mVar, mC, mCons, mNil, mTup, fTup, mLst, fLst, mBin, mUn, mCB, mTest, mTru, truF, mAndT, mOrT, mNotT, mAnd, mOr, mNot, mIf, mChain, map_p_nil, map_p_cons, deepV_p, okq_non, okq_bl, okq_int, okq_str, okq_tup, okq_lst, okqs_nil, okqs_cons, fEq_ii, fNe_ii, fEq_ss, fNe_ss, at0, at1, at2, at3, at4, seqOf_tup, seqOf_lst, seqOf_ref, listOf_lst, listOf_ref, fIx_tup, fIx_lst, fIx_ref, ix10, ix20, ix21, ix30, ix31, ix32, ix40, ix41, ix42, ix43, ix50, ix51, ix52, ix53, ix54, ix60, ix61, ix62, ix63, ix64, ix65, ix70, ix71, ix72, ix73, ix74, ix75, ix76, ix80, ix81, ix82, ix83, ix84, ix85, ix86, ix87, fI, fSub, fDiv, fMod, fPow, fNeg, fLt, fLe, fGt, fGe, fOrd, fGcd, fAbs, fInt, fLen, fStr, fIs, fIsNot, isNon, fAdd, fMul, fIsi, tyOfD, tyNm, fAppend, mBM, mBM0, isL, DL.listOf, sSetItem, fSetItem, sPar, sAsg, tgName, tgTup, tgNil, tgCons, kit_ii, kit_bi, kit_ni, kit_si, kit_ti, kit_li, kit_ib, kit_bb, kit_nb, kit_sb, kit_tb, kit_lb, kit_it, kit_bt, kit_nt, kit_st, kit_tt, kit_lt, kit_is, kit_bs, kit_ns, kit_ss, kit_ts, kit_ls, kit_il, kit_bl, kit_nl, kit_sl, kit_tl, kit_ll, mCall, mCallD, callF, pass_nil, pass_p, pass_f, pass_m, callR, nodupB, setCells, yes2, line, range_1, range_2, List.length_cons, List.length_nil, List.getElem?_cons_zero, List.getElem?_cons_succ, List.map_cons, List.map_nil, List.replicate_zero, List.replicate_succ, List.range_zero, List.set_cons_zero, List.set_cons_succ, List.append_nil, List.nil_append, List.cons_append, List.contains_nil, if_true, if_false, ite_true, ite_false, reduceIte, Bool.and_true, Bool.true_and, Bool.not_true, Bool.not_false, Bool.false_and, Bool.and_false, decide_true, decide_false, Nat.reduceLeDiff, Nat.reduceSub, Nat.reduceAdd, Nat.reduceLT, Int.reduceLT, Int.reduceLE, Int.reduceEq, Int.reduceNe, Option.map_some, Option.map_none, Option.bind_some, Option.bind_none, decide_not, ne_eq, not_true_eq_false, not_false_eq_true, reduceCtorEq, and_self, nc0, nc1, nc2, nc3, nc4, nc5, nc6, S, I, R, mItl, M]
    · intro x hx acc
      obtain ⟨r, rfl⟩ : ∃ r, x = rat r := by
        simp only [M, List.mem_cons, List.mem_nil_iff, or_false] at hx
        rcases hx with h | h | h | h | h <;> exact ⟨_, h⟩
      have h : f__law_is_ratio [rat r] [] = .ok (.bl true) [] := lisr_eq _ _
      refine ⟨((S ns (I a) (I b) (I c) (I d) (I n) (R p) (R q) (R (ngt q)) (some (.ref 1)) (some (.ref 2)) (R (pw p n.toNat)) y none none []).env.set 16 (some (.p (rat r)))), ((S ns (I a) (I b) (I c) (I d) (I n) (R p) (R q) (R (ngt q)) (some (.ref 1)) (some (.ref 2)) (R (pw p n.toNat)) y none none []).env.set 16 (some (.p (rat r)))), rfl, ?_⟩
      simp only [runF, entry, initE, fin, finR, frz_p, frz_ref, frzW_nil, frzW_p, frzW_ref, frzW_map, contN, cont, pds, pds_map, mb, eb, sSeq, sSet, sRet, sRetN, sIf, sNext, sExpr, sBreak, sCont, mVar, mC, mCons, mNil, mTup, fTup, mLst, fLst, mBin, mUn, mCB, mTest, mTru, truF, mAndT, mOrT, mNotT, mAnd, mOr, mNot, mIf, mChain, map_p_nil, map_p_cons, deepV_p, okq_non, okq_bl, okq_int, okq_str, okq_tup, okq_lst, okqs_nil, okqs_cons, fEq_ii, fNe_ii, fEq_ss, fNe_ss, at0, at1, at2, at3, at4, seqOf_tup, seqOf_lst, seqOf_ref, listOf_lst, listOf_ref, fIx_tup, fIx_lst, fIx_ref, ix10, ix20, ix21, ix30, ix31, ix32, ix40, ix41, ix42, ix43, ix50, ix51, ix52, ix53, ix54, ix60, ix61, ix62, ix63, ix64, ix65, ix70, ix71, ix72, ix73, ix74, ix75, ix76, ix80, ix81, ix82, ix83, ix84, ix85, ix86, ix87, fI, fSub, fDiv, fMod, fPow, fNeg, fLt, fLe, fGt, fGe, fOrd, fGcd, fAbs, fInt, fLen, fStr, fIs, fIsNot, isNon, fAdd, fMul, fIsi, tyOfD, tyNm, fAppend, mBM, mBM0, isL, DL.listOf, sSetItem, fSetItem, sPar, sAsg, tgName, tgTup, tgNil, tgCons, kit_ii, kit_bi, kit_ni, kit_si, kit_ti, kit_li, kit_ib, kit_bb, kit_nb, kit_sb, kit_tb, kit_lb, kit_it, kit_bt, kit_nt, kit_st, kit_tt, kit_lt, kit_is, kit_bs, kit_ns, kit_ss, kit_ts, kit_ls, kit_il, kit_bl, kit_nl, kit_sl, kit_tl, kit_ll, mCall, mCallD, callF, pass_nil, pass_p, pass_f, pass_m, callR, nodupB, setCells, yes2, line, range_1, range_2, List.length_cons, List.length_nil, List.getElem?_cons_zero, List.getElem?_cons_succ, List.map_cons, List.map_nil, List.replicate_zero, List.replicate_succ, List.range_zero, List.set_cons_zero, List.set_cons_succ, List.append_nil, List.nil_append, List.cons_append, List.contains_nil, if_true, if_false, ite_true, ite_false, reduceIte, Bool.and_true, Bool.true_and, Bool.not_true, Bool.not_false, Bool.false_and, Bool.and_false, decide_true, decide_false, Nat.reduceLeDiff, Nat.reduceSub, Nat.reduceAdd, Nat.reduceLT, Int.reduceLT, Int.reduceLE, Int.reduceEq, Int.reduceNe, Option.map_some, Option.map_none, Option.bind_some, Option.bind_none, decide_not, ne_eq, not_true_eq_false, not_false_eq_true, reduceCtorEq, and_self, nc0, nc1, nc2, nc3, nc4, nc5, nc6, S, I, R, e1_law, h]
  obtain ⟨cs, al, hcs⟩ := al
  have g3 : (cs ++ [Cell.lst [.p (.bl true), .p (.bl true), .p (.bl true), .p (.bl true), .p (.bl true)]])[3]? = some (.lst [.p (.bl true), .p (.bl true), .p (.bl true), .p (.bl true), .p (.bl true)]) := by
    rw [← hcs]; exact at_last
  refine ex_seq (s1 := S ns (I a) (I b) (I c) (I d) (I n) (R p) (R q) (R (ngt q)) (some (.ref 1)) (some (.ref 2)) (R (pw p n.toNat)) y none none (cs ++ [.lst [.p (.bl true), .p (.bl true), .p (.bl true), .p (.bl true), .p (.bl true)]])) (by
    refine if_f (s1 := S ns (I a) (I b) (I c) (I d) (I n) (R p) (R q) (R (ngt q)) (some (.ref 1)) (some (.ref 2)) (R (pw p n.toNat)) y none none (cs ++ [.lst [.p (.bl true), .p (.bl true), .p (.bl true), .p (.bl true), .p (.bl true)]])) ?_ rfl
    have k10 : mVar 10 (S ns (I a) (I b) (I c) (I d) (I n) (R p) (R q) (R (ngt q)) (some (.ref 1)) (some (.ref 2)) (R (pw p n.toNat)) y none none [.lst (l5.map .p), .lst (M.map .p), .lst (M.map .p)]) = .ok (.ref 1) _ := rfl
    have k11 : mVar 11 (S ns (I a) (I b) (I c) (I d) (I n) (R p) (R q) (R (ngt q)) (some (.ref 1)) (some (.ref 2)) (R (pw p n.toNat)) y none none [.lst (l5.map .p), .lst (M.map .p), .lst (M.map .p)]) = .ok (.ref 2) _ := rfl
    simp only [mOrT, mTest, mb, mBin, k10, k11, nr, mNotT, mTru, mCB, mCons, mNil, al]
    simp only [runF, entry, initE, fin, finR, frz_p, frz_ref, frzW_nil, frzW_p, frzW_ref, frzW_map, contN, cont, pds, pds_map, mb, eb, sSeq, sSet, sRet, sRetN, sIf, sNext, sExpr, sBreak, sCont, mVar, mC, mCons, mNil, mTup, fTup, mLst, fLst, mBin, mUn, mCB, mTest, mTru, truF, mAndT, mOrT, mNotT, mAnd, mOr, mNot, mIf, mChain, map_p_nil, map_p_cons, deepV_p, okq_non, okq_bl, okq_int, okq_str, okq_tup, okq_lst, okqs_nil, okqs_cons, fEq_ii, fNe_ii, fEq_ss, fNe_ss, at0, at1, at2, at3, at4, seqOf_tup, seqOf_lst, seqOf_ref, listOf_lst, listOf_ref, fIx_tup, fIx_lst, fIx_ref, ix10, ix20, ix21, ix30, ix31, ix32, ix40, ix41, ix42, ix43, ix50, ix51, ix52, ix53, ix54, ix60, ix61, ix62, ix63, ix64, ix65, ix70, ix71, ix72, ix73, ix74, ix75, ix76, ix80, ix81, ix82, ix83, ix84, ix85, ix86, ix87, fI, fSub, fDiv, fMod, fPow, fNeg, fLt, fLe, fGt, fGe, fOrd, fGcd, fAbs, fInt, fLen, fStr, fIs, fIsNot, isNon, fAdd, fMul, fIsi, tyOfD, tyNm, fAppend, mBM, mBM0, isL, DL.listOf, sSetItem, fSetItem, sPar, sAsg, tgName, tgTup, tgNil, tgCons, kit_ii, kit_bi, kit_ni, kit_si, kit_ti, kit_li, kit_ib, kit_bb, kit_nb, kit_sb, kit_tb, kit_lb, kit_it, kit_bt, kit_nt, kit_st, kit_tt, kit_lt, kit_is, kit_bs, kit_ns, kit_ss, kit_ts, kit_ls, kit_il, kit_bl, kit_nl, kit_sl, kit_tl, kit_ll, mCall, mCallD, callF, pass_nil, pass_p, pass_f, pass_m, callR, nodupB, setCells, yes2, line, range_1, range_2, List.length_cons, List.length_nil, List.getElem?_cons_zero, List.getElem?_cons_succ, List.map_cons, List.map_nil, List.replicate_zero, List.replicate_succ, List.range_zero, List.set_cons_zero, List.set_cons_succ, List.append_nil, List.nil_append, List.cons_append, List.contains_nil, if_true, if_false, ite_true, ite_false, reduceIte, Bool.and_true, Bool.true_and, Bool.not_true, Bool.not_false, Bool.false_and, Bool.and_false, decide_true, decide_false, Nat.reduceLeDiff, Nat.reduceSub, Nat.reduceAdd, Nat.reduceLT, Int.reduceLT, Int.reduceLE, Int.reduceEq, Int.reduceNe, Option.map_some, Option.map_none, Option.bind_some, Option.bind_none, decide_not, ne_eq, not_true_eq_false, not_false_eq_true, reduceCtorEq, and_self, nc0, nc1, nc2, nc3, nc4, nc5, nc6, S, fAll, g3, bools]
    rfl) ?_
  generalize (cs ++ [Cell.lst [.p (.bl true), .p (.bl true), .p (.bl true), .p (.bl true), .p (.bl true)]]) = cs2
  have e1s (s : DS) : fNe (.p (.tup [.str "refused", .str ""])) (.p (.tup [.str "refused", .str ""])) s = .ok (.p (.bl false)) s := fNe_same _ _ (by decide +kernel) (by decide +kernel)
  have e2s (s : DS) (x : Int × Int) : fNe (.p (.tup [.str "made", rat x])) (.p (.tup [.str "made", rat x])) s = .ok (.p (.bl false)) s := fNe_same _ _ (by
    rw [okq_tup, okqs_cons, okqs_cons, okq_rat, okq_str, okqs_nil]
    decide +kernel) (by simp [PD.nb, PD.nbs, nb_rat])
  refine ex_seq (s1 := S ns (I a) (I b) (I c) (I d) (I n) (R p) (R q) (R (ngt q)) (some (.ref 1)) (some (.ref 2)) (R (pw p n.toNat)) y none none cs2) (by
    by_cases hz : q.1 = 0
    · simp only [runF, entry, initE, fin, finR, frz_p, frz_ref, frzW_nil, frzW_p, frzW_ref, frzW_map, contN, cont, pds, pds_map, mb, eb, sSeq, sSet, sRet, sRetN, sIf, sNext, sExpr, sBreak, sCont, mVar, mC, mCons, mNil, mTup, fTup, mLst, fLst, mBin, mUn, mCB, mTest, mTru, truF, mAndT, mOrT, mNotT, mAnd, mOr, mNot, mIf, mChain, map_p_nil, map_p_cons, deepV_p, okq_non, okq_bl, okq_int, okq_str, okq_tup, okq_lst, okqs_nil, okqs_cons, fEq_ii, fNe_ii, fEq_ss, fNe_ss, at0, at1, at2, at3, at4, seqOf_tup, seqOf_lst, seqOf_ref, listOf_lst, listOf_ref, fIx_tup, fIx_lst, fIx_ref, ix10, ix20, ix21, ix30, ix31, ix32, ix40, ix41, ix42, ix43, ix50, ix51, ix52, ix53, ix54, ix60, ix61, ix62, ix63, ix64, ix65, ix70, ix71, ix72, ix73, ix74, ix75, ix76, ix80, ix81, ix82, ix83, ix84, ix85, ix86, ix87, fI, fSub, fDiv, fMod, fPow, fNeg, fLt, fLe, fGt, fGe, fOrd, fGcd, fAbs, fInt, fLen, fStr, fIs, fIsNot, isNon, fAdd, fMul, fIsi, tyOfD, tyNm, fAppend, mBM, mBM0, isL, DL.listOf, sSetItem, fSetItem, sPar, sAsg, tgName, tgTup, tgNil, tgCons, kit_ii, kit_bi, kit_ni, kit_si, kit_ti, kit_li, kit_ib, kit_bb, kit_nb, kit_sb, kit_tb, kit_lb, kit_it, kit_bt, kit_nt, kit_st, kit_tt, kit_lt, kit_is, kit_bs, kit_ns, kit_ss, kit_ts, kit_ls, kit_il, kit_bl, kit_nl, kit_sl, kit_tl, kit_ll, mCall, mCallD, callF, pass_nil, pass_p, pass_f, pass_m, callR, nodupB, setCells, yes2, line, range_1, range_2, List.length_cons, List.length_nil, List.getElem?_cons_zero, List.getElem?_cons_succ, List.map_cons, List.map_nil, List.replicate_zero, List.replicate_succ, List.range_zero, List.set_cons_zero, List.set_cons_succ, List.append_nil, List.nil_append, List.cons_append, List.contains_nil, if_true, if_false, ite_true, ite_false, reduceIte, Bool.and_true, Bool.true_and, Bool.not_true, Bool.not_false, Bool.false_and, Bool.and_false, decide_true, decide_false, Nat.reduceLeDiff, Nat.reduceSub, Nat.reduceAdd, Nat.reduceLT, Int.reduceLT, Int.reduceLE, Int.reduceEq, Int.reduceNe, Option.map_some, Option.map_none, Option.bind_some, Option.bind_none, decide_not, ne_eq, not_true_eq_false, not_false_eq_true, reduceCtorEq, and_self, nc0, nc1, nc2, nc3, nc4, nc5, nc6, S, I, R, o0, o1, hz, over_nought hz, e1s]
    · have hn : p.2 * q.1 ≠ 0 := Int.mul_ne_zero (by have := cp'.2.2; omega) hz
      have l := lratio_eq (a := p.1 * q.2) hn (sm2 cp'.2.1 cq'.1)
      simp only [runF, entry, initE, fin, finR, frz_p, frz_ref, frzW_nil, frzW_p, frzW_ref, frzW_map, contN, cont, pds, pds_map, mb, eb, sSeq, sSet, sRet, sRetN, sIf, sNext, sExpr, sBreak, sCont, mVar, mC, mCons, mNil, mTup, fTup, mLst, fLst, mBin, mUn, mCB, mTest, mTru, truF, mAndT, mOrT, mNotT, mAnd, mOr, mNot, mIf, mChain, map_p_nil, map_p_cons, deepV_p, okq_non, okq_bl, okq_int, okq_str, okq_tup, okq_lst, okqs_nil, okqs_cons, fEq_ii, fNe_ii, fEq_ss, fNe_ss, at0, at1, at2, at3, at4, seqOf_tup, seqOf_lst, seqOf_ref, listOf_lst, listOf_ref, fIx_tup, fIx_lst, fIx_ref, ix10, ix20, ix21, ix30, ix31, ix32, ix40, ix41, ix42, ix43, ix50, ix51, ix52, ix53, ix54, ix60, ix61, ix62, ix63, ix64, ix65, ix70, ix71, ix72, ix73, ix74, ix75, ix76, ix80, ix81, ix82, ix83, ix84, ix85, ix86, ix87, fI, fSub, fDiv, fMod, fPow, fNeg, fLt, fLe, fGt, fGe, fOrd, fGcd, fAbs, fInt, fLen, fStr, fIs, fIsNot, isNon, fAdd, fMul, fIsi, tyOfD, tyNm, fAppend, mBM, mBM0, isL, DL.listOf, sSetItem, fSetItem, sPar, sAsg, tgName, tgTup, tgNil, tgCons, kit_ii, kit_bi, kit_ni, kit_si, kit_ti, kit_li, kit_ib, kit_bb, kit_nb, kit_sb, kit_tb, kit_lb, kit_it, kit_bt, kit_nt, kit_st, kit_tt, kit_lt, kit_is, kit_bs, kit_ns, kit_ss, kit_ts, kit_ls, kit_il, kit_bl, kit_nl, kit_sl, kit_tl, kit_ll, mCall, mCallD, callF, pass_nil, pass_p, pass_f, pass_m, callR, nodupB, setCells, yes2, line, range_1, range_2, List.length_cons, List.length_nil, List.getElem?_cons_zero, List.getElem?_cons_succ, List.map_cons, List.map_nil, List.replicate_zero, List.replicate_succ, List.range_zero, List.set_cons_zero, List.set_cons_succ, List.append_nil, List.nil_append, List.cons_append, List.contains_nil, if_true, if_false, ite_true, ite_false, reduceIte, Bool.and_true, Bool.true_and, Bool.not_true, Bool.not_false, Bool.false_and, Bool.and_false, decide_true, decide_false, Nat.reduceLeDiff, Nat.reduceSub, Nat.reduceAdd, Nat.reduceLT, Int.reduceLT, Int.reduceLE, Int.reduceEq, Int.reduceNe, Option.map_some, Option.map_none, Option.bind_some, Option.bind_none, decide_not, ne_eq, not_true_eq_false, not_false_eq_true, reduceCtorEq, and_self, nc0, nc1, nc2, nc3, nc4, nc5, nc6, S, I, R, o0, o1, hz, over_made hz cp' cq', l, e2s, b1, b3]) ?_
  refine ex_seq (s1 := S ns (I a) (I b) (I c) (I d) (I n) (R p) (R q) (R (ngt q)) (some (.ref 1)) (some (.ref 2)) (R (pw p n.toNat)) y (I (p.1 * q.2 - q.1 * p.2)) none cs2) (by simp only [runF, entry, initE, fin, finR, frz_p, frz_ref, frzW_nil, frzW_p, frzW_ref, frzW_map, contN, cont, pds, pds_map, mb, eb, sSeq, sSet, sRet, sRetN, sIf, sNext, sExpr, sBreak, sCont, mVar, mC, mCons, mNil, mTup, fTup, mLst, fLst, mBin, mUn, mCB, mTest, mTru, truF, mAndT, mOrT, mNotT, mAnd, mOr, mNot, mIf, mChain, map_p_nil, map_p_cons, deepV_p, okq_non, okq_bl, okq_int, okq_str, okq_tup, okq_lst, okqs_nil, okqs_cons, fEq_ii, fNe_ii, fEq_ss, fNe_ss, at0, at1, at2, at3, at4, seqOf_tup, seqOf_lst, seqOf_ref, listOf_lst, listOf_ref, fIx_tup, fIx_lst, fIx_ref, ix10, ix20, ix21, ix30, ix31, ix32, ix40, ix41, ix42, ix43, ix50, ix51, ix52, ix53, ix54, ix60, ix61, ix62, ix63, ix64, ix65, ix70, ix71, ix72, ix73, ix74, ix75, ix76, ix80, ix81, ix82, ix83, ix84, ix85, ix86, ix87, fI, fSub, fDiv, fMod, fPow, fNeg, fLt, fLe, fGt, fGe, fOrd, fGcd, fAbs, fInt, fLen, fStr, fIs, fIsNot, isNon, fAdd, fMul, fIsi, tyOfD, tyNm, fAppend, mBM, mBM0, isL, DL.listOf, sSetItem, fSetItem, sPar, sAsg, tgName, tgTup, tgNil, tgCons, kit_ii, kit_bi, kit_ni, kit_si, kit_ti, kit_li, kit_ib, kit_bb, kit_nb, kit_sb, kit_tb, kit_lb, kit_it, kit_bt, kit_nt, kit_st, kit_tt, kit_lt, kit_is, kit_bs, kit_ns, kit_ss, kit_ts, kit_ls, kit_il, kit_bl, kit_nl, kit_sl, kit_tl, kit_ll, mCall, mCallD, callF, pass_nil, pass_p, pass_f, pass_m, callR, nodupB, setCells, yes2, line, range_1, range_2, List.length_cons, List.length_nil, List.getElem?_cons_zero, List.getElem?_cons_succ, List.map_cons, List.map_nil, List.replicate_zero, List.replicate_succ, List.range_zero, List.set_cons_zero, List.set_cons_succ, List.append_nil, List.nil_append, List.cons_append, List.contains_nil, if_true, if_false, ite_true, ite_false, reduceIte, Bool.and_true, Bool.true_and, Bool.not_true, Bool.not_false, Bool.false_and, Bool.and_false, decide_true, decide_false, Nat.reduceLeDiff, Nat.reduceSub, Nat.reduceAdd, Nat.reduceLT, Int.reduceLT, Int.reduceLE, Int.reduceEq, Int.reduceNe, Option.map_some, Option.map_none, Option.bind_some, Option.bind_none, decide_not, ne_eq, not_true_eq_false, not_false_eq_true, reduceCtorEq, and_self, nc0, nc1, nc2, nc3, nc4, nc5, nc6, S, I, R, o0, o1, b1, b2]) ?_
  refine ex_seq (s1 := S ns (I a) (I b) (I c) (I d) (I n) (R p) (R q) (R (ngt q)) (some (.ref 1)) (some (.ref 2)) (R (pw p n.toNat)) y (I (p.1 * q.2 - q.1 * p.2)) (I 0) cs2) (by simp only [runF, entry, initE, fin, finR, frz_p, frz_ref, frzW_nil, frzW_p, frzW_ref, frzW_map, contN, cont, pds, pds_map, mb, eb, sSeq, sSet, sRet, sRetN, sIf, sNext, sExpr, sBreak, sCont, mVar, mC, mCons, mNil, mTup, fTup, mLst, fLst, mBin, mUn, mCB, mTest, mTru, truF, mAndT, mOrT, mNotT, mAnd, mOr, mNot, mIf, mChain, map_p_nil, map_p_cons, deepV_p, okq_non, okq_bl, okq_int, okq_str, okq_tup, okq_lst, okqs_nil, okqs_cons, fEq_ii, fNe_ii, fEq_ss, fNe_ss, at0, at1, at2, at3, at4, seqOf_tup, seqOf_lst, seqOf_ref, listOf_lst, listOf_ref, fIx_tup, fIx_lst, fIx_ref, ix10, ix20, ix21, ix30, ix31, ix32, ix40, ix41, ix42, ix43, ix50, ix51, ix52, ix53, ix54, ix60, ix61, ix62, ix63, ix64, ix65, ix70, ix71, ix72, ix73, ix74, ix75, ix76, ix80, ix81, ix82, ix83, ix84, ix85, ix86, ix87, fI, fSub, fDiv, fMod, fPow, fNeg, fLt, fLe, fGt, fGe, fOrd, fGcd, fAbs, fInt, fLen, fStr, fIs, fIsNot, isNon, fAdd, fMul, fIsi, tyOfD, tyNm, fAppend, mBM, mBM0, isL, DL.listOf, sSetItem, fSetItem, sPar, sAsg, tgName, tgTup, tgNil, tgCons, kit_ii, kit_bi, kit_ni, kit_si, kit_ti, kit_li, kit_ib, kit_bb, kit_nb, kit_sb, kit_tb, kit_lb, kit_it, kit_bt, kit_nt, kit_st, kit_tt, kit_lt, kit_is, kit_bs, kit_ns, kit_ss, kit_ts, kit_ls, kit_il, kit_bl, kit_nl, kit_sl, kit_tl, kit_ll, mCall, mCallD, callF, pass_nil, pass_p, pass_f, pass_m, callR, nodupB, setCells, yes2, line, range_1, range_2, List.length_cons, List.length_nil, List.getElem?_cons_zero, List.getElem?_cons_succ, List.map_cons, List.map_nil, List.replicate_zero, List.replicate_succ, List.range_zero, List.set_cons_zero, List.set_cons_succ, List.append_nil, List.nil_append, List.cons_append, List.contains_nil, if_true, if_false, ite_true, ite_false, reduceIte, Bool.and_true, Bool.true_and, Bool.not_true, Bool.not_false, Bool.false_and, Bool.and_false, decide_true, decide_false, Nat.reduceLeDiff, Nat.reduceSub, Nat.reduceAdd, Nat.reduceLT, Int.reduceLT, Int.reduceLE, Int.reduceEq, Int.reduceNe, Option.map_some, Option.map_none, Option.bind_some, Option.bind_none, decide_not, ne_eq, not_true_eq_false, not_false_eq_true, reduceCtorEq, and_self, nc0, nc1, nc2, nc3, nc4, nc5, nc6, S, I, R]) ?_
  obtain ⟨o, ho⟩ : ∃ o : Int, (if p.1 * q.2 - q.1 * p.2 = 0 then (0 : Int) else if 0 < p.1 * q.2 - q.1 * p.2 then 1 else -1) = o := ⟨_, rfl⟩
  refine ex_seq (s1 := S ns (I a) (I b) (I c) (I d) (I n) (R p) (R q) (R (ngt q)) (some (.ref 1)) (some (.ref 2)) (R (pw p n.toNat)) y (I (p.1 * q.2 - q.1 * p.2)) (I o) cs2) (by
    by_cases hz : p.1 * q.2 - q.1 * p.2 = 0
    · rw [if_pos hz] at ho; subst ho; simp only [runF, entry, initE, fin, finR, frz_p, frz_ref, frzW_nil, frzW_p, frzW_ref, frzW_map, contN, cont, pds, pds_map, mb, eb, sSeq, sSet, sRet, sRetN, sIf, sNext, sExpr, sBreak, sCont, mVar, mC, mCons, mNil, mTup, fTup, mLst, fLst, mBin, mUn, mCB, mTest, mTru, truF, mAndT, mOrT, mNotT, mAnd, mOr, mNot, mIf, mChain, map_p_nil, map_p_cons, deepV_p, okq_non, okq_bl, okq_int, okq_str, okq_tup, okq_lst, okqs_nil, okqs_cons, fEq_ii, fNe_ii, fEq_ss, fNe_ss, at0, at1, at2, at3, at4, seqOf_tup, seqOf_lst, seqOf_ref, listOf_lst, listOf_ref, fIx_tup, fIx_lst, fIx_ref, ix10, ix20, ix21, ix30, ix31, ix32, ix40, ix41, ix42, ix43, ix50, ix51, ix52, ix53, ix54, ix60, ix61, ix62, ix63, ix64, ix65, ix70, ix71, ix72, ix73, ix74, ix75, ix76, ix80, ix81, ix82, ix83, ix84, ix85, ix86, ix87, fI, fSub, fDiv, fMod, fPow, fNeg, fLt, fLe, fGt, fGe, fOrd, fGcd, fAbs, fInt, fLen, fStr, fIs, fIsNot, isNon, fAdd, fMul, fIsi, tyOfD, tyNm, fAppend, mBM, mBM0, isL, DL.listOf, sSetItem, fSetItem, sPar, sAsg, tgName, tgTup, tgNil, tgCons, kit_ii, kit_bi, kit_ni, kit_si, kit_ti, kit_li, kit_ib, kit_bb, kit_nb, kit_sb, kit_tb, kit_lb, kit_it, kit_bt, kit_nt, kit_st, kit_tt, kit_lt, kit_is, kit_bs, kit_ns, kit_ss, kit_ts, kit_ls, kit_il, kit_bl, kit_nl, kit_sl, kit_tl, kit_ll, mCall, mCallD, callF, pass_nil, pass_p, pass_f, pass_m, callR, nodupB, setCells, yes2, line, range_1, range_2, List.length_cons, List.length_nil, List.getElem?_cons_zero, List.getElem?_cons_succ, List.map_cons, List.map_nil, List.replicate_zero, List.replicate_succ, List.range_zero, List.set_cons_zero, List.set_cons_succ, List.append_nil, List.nil_append, List.cons_append, List.contains_nil, if_true, if_false, ite_true, ite_false, reduceIte, Bool.and_true, Bool.true_and, Bool.not_true, Bool.not_false, Bool.false_and, Bool.and_false, decide_true, decide_false, Nat.reduceLeDiff, Nat.reduceSub, Nat.reduceAdd, Nat.reduceLT, Int.reduceLT, Int.reduceLE, Int.reduceEq, Int.reduceNe, Option.map_some, Option.map_none, Option.bind_some, Option.bind_none, decide_not, ne_eq, not_true_eq_false, not_false_eq_true, reduceCtorEq, and_self, nc0, nc1, nc2, nc3, nc4, nc5, nc6, S, I, R, hz]
    · rw [if_neg hz] at ho
      by_cases hy : 0 < p.1 * q.2 - q.1 * p.2
      · rw [if_pos hy] at ho; subst ho; simp only [runF, entry, initE, fin, finR, frz_p, frz_ref, frzW_nil, frzW_p, frzW_ref, frzW_map, contN, cont, pds, pds_map, mb, eb, sSeq, sSet, sRet, sRetN, sIf, sNext, sExpr, sBreak, sCont, mVar, mC, mCons, mNil, mTup, fTup, mLst, fLst, mBin, mUn, mCB, mTest, mTru, truF, mAndT, mOrT, mNotT, mAnd, mOr, mNot, mIf, mChain, map_p_nil, map_p_cons, deepV_p, okq_non, okq_bl, okq_int, okq_str, okq_tup, okq_lst, okqs_nil, okqs_cons, fEq_ii, fNe_ii, fEq_ss, fNe_ss, at0, at1, at2, at3, at4, seqOf_tup, seqOf_lst, seqOf_ref, listOf_lst, listOf_ref, fIx_tup, fIx_lst, fIx_ref, ix10, ix20, ix21, ix30, ix31, ix32, ix40, ix41, ix42, ix43, ix50, ix51, ix52, ix53, ix54, ix60, ix61, ix62, ix63, ix64, ix65, ix70, ix71, ix72, ix73, ix74, ix75, ix76, ix80, ix81, ix82, ix83, ix84, ix85, ix86, ix87, fI, fSub, fDiv, fMod, fPow, fNeg, fLt, fLe, fGt, fGe, fOrd, fGcd, fAbs, fInt, fLen, fStr, fIs, fIsNot, isNon, fAdd, fMul, fIsi, tyOfD, tyNm, fAppend, mBM, mBM0, isL, DL.listOf, sSetItem, fSetItem, sPar, sAsg, tgName, tgTup, tgNil, tgCons, kit_ii, kit_bi, kit_ni, kit_si, kit_ti, kit_li, kit_ib, kit_bb, kit_nb, kit_sb, kit_tb, kit_lb, kit_it, kit_bt, kit_nt, kit_st, kit_tt, kit_lt, kit_is, kit_bs, kit_ns, kit_ss, kit_ts, kit_ls, kit_il, kit_bl, kit_nl, kit_sl, kit_tl, kit_ll, mCall, mCallD, callF, pass_nil, pass_p, pass_f, pass_m, callR, nodupB, setCells, yes2, line, range_1, range_2, List.length_cons, List.length_nil, List.getElem?_cons_zero, List.getElem?_cons_succ, List.map_cons, List.map_nil, List.replicate_zero, List.replicate_succ, List.range_zero, List.set_cons_zero, List.set_cons_succ, List.append_nil, List.nil_append, List.cons_append, List.contains_nil, if_true, if_false, ite_true, ite_false, reduceIte, Bool.and_true, Bool.true_and, Bool.not_true, Bool.not_false, Bool.false_and, Bool.and_false, decide_true, decide_false, Nat.reduceLeDiff, Nat.reduceSub, Nat.reduceAdd, Nat.reduceLT, Int.reduceLT, Int.reduceLE, Int.reduceEq, Int.reduceNe, Option.map_some, Option.map_none, Option.bind_some, Option.bind_none, decide_not, ne_eq, not_true_eq_false, not_false_eq_true, reduceCtorEq, and_self, nc0, nc1, nc2, nc3, nc4, nc5, nc6, S, I, R, hz, hy]
      · rw [if_neg hy] at ho; subst ho; simp only [runF, entry, initE, fin, finR, frz_p, frz_ref, frzW_nil, frzW_p, frzW_ref, frzW_map, contN, cont, pds, pds_map, mb, eb, sSeq, sSet, sRet, sRetN, sIf, sNext, sExpr, sBreak, sCont, mVar, mC, mCons, mNil, mTup, fTup, mLst, fLst, mBin, mUn, mCB, mTest, mTru, truF, mAndT, mOrT, mNotT, mAnd, mOr, mNot, mIf, mChain, map_p_nil, map_p_cons, deepV_p, okq_non, okq_bl, okq_int, okq_str, okq_tup, okq_lst, okqs_nil, okqs_cons, fEq_ii, fNe_ii, fEq_ss, fNe_ss, at0, at1, at2, at3, at4, seqOf_tup, seqOf_lst, seqOf_ref, listOf_lst, listOf_ref, fIx_tup, fIx_lst, fIx_ref, ix10, ix20, ix21, ix30, ix31, ix32, ix40, ix41, ix42, ix43, ix50, ix51, ix52, ix53, ix54, ix60, ix61, ix62, ix63, ix64, ix65, ix70, ix71, ix72, ix73, ix74, ix75, ix76, ix80, ix81, ix82, ix83, ix84, ix85, ix86, ix87, fI, fSub, fDiv, fMod, fPow, fNeg, fLt, fLe, fGt, fGe, fOrd, fGcd, fAbs, fInt, fLen, fStr, fIs, fIsNot, isNon, fAdd, fMul, fIsi, tyOfD, tyNm, fAppend, mBM, mBM0, isL, DL.listOf, sSetItem, fSetItem, sPar, sAsg, tgName, tgTup, tgNil, tgCons, kit_ii, kit_bi, kit_ni, kit_si, kit_ti, kit_li, kit_ib, kit_bb, kit_nb, kit_sb, kit_tb, kit_lb, kit_it, kit_bt, kit_nt, kit_st, kit_tt, kit_lt, kit_is, kit_bs, kit_ns, kit_ss, kit_ts, kit_ls, kit_il, kit_bl, kit_nl, kit_sl, kit_tl, kit_ll, mCall, mCallD, callF, pass_nil, pass_p, pass_f, pass_m, callR, nodupB, setCells, yes2, line, range_1, range_2, List.length_cons, List.length_nil, List.getElem?_cons_zero, List.getElem?_cons_succ, List.map_cons, List.map_nil, List.replicate_zero, List.replicate_succ, List.range_zero, List.set_cons_zero, List.set_cons_succ, List.append_nil, List.nil_append, List.cons_append, List.contains_nil, if_true, if_false, ite_true, ite_false, reduceIte, Bool.and_true, Bool.true_and, Bool.not_true, Bool.not_false, Bool.false_and, Bool.and_false, decide_true, decide_false, Nat.reduceLeDiff, Nat.reduceSub, Nat.reduceAdd, Nat.reduceLT, Int.reduceLT, Int.reduceLE, Int.reduceEq, Int.reduceNe, Option.map_some, Option.map_none, Option.bind_some, Option.bind_none, decide_not, ne_eq, not_true_eq_false, not_false_eq_true, reduceCtorEq, and_self, nc0, nc1, nc2, nc3, nc4, nc5, nc6, S, I, R, hz, hy]) ?_
  have c1 : f_ratio_compare [rat p, rat q] [] = .ok (.int o) [] := by
    have e : (if p.1 * q.2 < q.1 * p.2 then (-1 : Int) else if q.1 * p.2 < p.1 * q.2 then 1 else 0) = o := by
      rw [← ho]
      repeat' split
      all_goals omega
    rw [compare_eq cp' cq', e]
  have c2 : f_ratio_compare [rat q, rat p] [] = .ok (.int (-o)) [] := by
    have e : (if q.1 * p.2 < p.1 * q.2 then (-1 : Int) else if p.1 * q.2 < q.1 * p.2 then 1 else 0) = -o := by
      rw [← ho]
      repeat' split
      all_goals omega
    rw [compare_eq cq' cp', e]
  have c3 : f_ratio_compare [rat p, rat p] [] = .ok (.int 0) [] := by
    have e : (if p.1 * p.2 < p.1 * p.2 then (-1 : Int) else if p.1 * p.2 < p.1 * p.2 then 1 else 0) = 0 := by
      repeat' split
      all_goals omega
    rw [compare_eq cp' cp', e]
  refine ex_seq (s1 := S ns (I a) (I b) (I c) (I d) (I n) (R p) (R q) (R (ngt q)) (some (.ref 1)) (some (.ref 2)) (R (pw p n.toNat)) y (I (p.1 * q.2 - q.1 * p.2)) (I o) cs2) (by simp only [runF, entry, initE, fin, finR, frz_p, frz_ref, frzW_nil, frzW_p, frzW_ref, frzW_map, contN, cont, pds, pds_map, mb, eb, sSeq, sSet, sRet, sRetN, sIf, sNext, sExpr, sBreak, sCont, mVar, mC, mCons, mNil, mTup, fTup, mLst, fLst, mBin, mUn, mCB, mTest, mTru, truF, mAndT, mOrT, mNotT, mAnd, mOr, mNot, mIf, mChain, map_p_nil, map_p_cons, deepV_p, okq_non, okq_bl, okq_int, okq_str, okq_tup, okq_lst, okqs_nil, okqs_cons, fEq_ii, fNe_ii, fEq_ss, fNe_ss, at0, at1, at2, at3, at4, seqOf_tup, seqOf_lst, seqOf_ref, listOf_lst, listOf_ref, fIx_tup, fIx_lst, fIx_ref, ix10, ix20, ix21, ix30, ix31, ix32, ix40, ix41, ix42, ix43, ix50, ix51, ix52, ix53, ix54, ix60, ix61, ix62, ix63, ix64, ix65, ix70, ix71, ix72, ix73, ix74, ix75, ix76, ix80, ix81, ix82, ix83, ix84, ix85, ix86, ix87, fI, fSub, fDiv, fMod, fPow, fNeg, fLt, fLe, fGt, fGe, fOrd, fGcd, fAbs, fInt, fLen, fStr, fIs, fIsNot, isNon, fAdd, fMul, fIsi, tyOfD, tyNm, fAppend, mBM, mBM0, isL, DL.listOf, sSetItem, fSetItem, sPar, sAsg, tgName, tgTup, tgNil, tgCons, kit_ii, kit_bi, kit_ni, kit_si, kit_ti, kit_li, kit_ib, kit_bb, kit_nb, kit_sb, kit_tb, kit_lb, kit_it, kit_bt, kit_nt, kit_st, kit_tt, kit_lt, kit_is, kit_bs, kit_ns, kit_ss, kit_ts, kit_ls, kit_il, kit_bl, kit_nl, kit_sl, kit_tl, kit_ll, mCall, mCallD, callF, pass_nil, pass_p, pass_f, pass_m, callR, nodupB, setCells, yes2, line, range_1, range_2, List.length_cons, List.length_nil, List.getElem?_cons_zero, List.getElem?_cons_succ, List.map_cons, List.map_nil, List.replicate_zero, List.replicate_succ, List.range_zero, List.set_cons_zero, List.set_cons_succ, List.append_nil, List.nil_append, List.cons_append, List.contains_nil, if_true, if_false, ite_true, ite_false, reduceIte, Bool.and_true, Bool.true_and, Bool.not_true, Bool.not_false, Bool.false_and, Bool.and_false, decide_true, decide_false, Nat.reduceLeDiff, Nat.reduceSub, Nat.reduceAdd, Nat.reduceLT, Int.reduceLT, Int.reduceLE, Int.reduceEq, Int.reduceNe, Option.map_some, Option.map_none, Option.bind_some, Option.bind_none, decide_not, ne_eq, not_true_eq_false, not_false_eq_true, reduceCtorEq, and_self, nc0, nc1, nc2, nc3, nc4, nc5, nc6, S, I, R, c1, c2, c3]) ?_
  refine ⟨S ns (I a) (I b) (I c) (I d) (I n) (R p) (R q) (R (ngt q)) (some (.ref 1)) (some (.ref 2)) (R (pw p n.toNat)) y (I (p.1 * q.2 - q.1 * p.2)) (I o) cs2, ?_⟩
  simp only [runF, entry, initE, fin, finR, frz_p, frz_ref, frzW_nil, frzW_p, frzW_ref, frzW_map, contN, cont, pds, pds_map, mb, eb, sSeq, sSet, sRet, sRetN, sIf, sNext, sExpr, sBreak, sCont, mVar, mC, mCons, mNil, mTup, fTup, mLst, fLst, mBin, mUn, mCB, mTest, mTru, truF, mAndT, mOrT, mNotT, mAnd, mOr, mNot, mIf, mChain, map_p_nil, map_p_cons, deepV_p, okq_non, okq_bl, okq_int, okq_str, okq_tup, okq_lst, okqs_nil, okqs_cons, fEq_ii, fNe_ii, fEq_ss, fNe_ss, at0, at1, at2, at3, at4, seqOf_tup, seqOf_lst, seqOf_ref, listOf_lst, listOf_ref, fIx_tup, fIx_lst, fIx_ref, ix10, ix20, ix21, ix30, ix31, ix32, ix40, ix41, ix42, ix43, ix50, ix51, ix52, ix53, ix54, ix60, ix61, ix62, ix63, ix64, ix65, ix70, ix71, ix72, ix73, ix74, ix75, ix76, ix80, ix81, ix82, ix83, ix84, ix85, ix86, ix87, fI, fSub, fDiv, fMod, fPow, fNeg, fLt, fLe, fGt, fGe, fOrd, fGcd, fAbs, fInt, fLen, fStr, fIs, fIsNot, isNon, fAdd, fMul, fIsi, tyOfD, tyNm, fAppend, mBM, mBM0, isL, DL.listOf, sSetItem, fSetItem, sPar, sAsg, tgName, tgTup, tgNil, tgCons, kit_ii, kit_bi, kit_ni, kit_si, kit_ti, kit_li, kit_ib, kit_bb, kit_nb, kit_sb, kit_tb, kit_lb, kit_it, kit_bt, kit_nt, kit_st, kit_tt, kit_lt, kit_is, kit_bs, kit_ns, kit_ss, kit_ts, kit_ls, kit_il, kit_bl, kit_nl, kit_sl, kit_tl, kit_ll, mCall, mCallD, callF, pass_nil, pass_p, pass_f, pass_m, callR, nodupB, setCells, yes2, line, range_1, range_2, List.length_cons, List.length_nil, List.getElem?_cons_zero, List.getElem?_cons_succ, List.map_cons, List.map_nil, List.replicate_zero, List.replicate_succ, List.range_zero, List.set_cons_zero, List.set_cons_succ, List.append_nil, List.nil_append, List.cons_append, List.contains_nil, if_true, if_false, ite_true, ite_false, reduceIte, Bool.and_true, Bool.true_and, Bool.not_true, Bool.not_false, Bool.false_and, Bool.and_false, decide_true, decide_false, Nat.reduceLeDiff, Nat.reduceSub, Nat.reduceAdd, Nat.reduceLT, Int.reduceLT, Int.reduceLE, Int.reduceEq, Int.reduceNe, Option.map_some, Option.map_none, Option.bind_some, Option.bind_none, decide_not, ne_eq, not_true_eq_false, not_false_eq_true, reduceCtorEq, and_self, nc0, nc1, nc2, nc3, nc4, nc5, nc6, S, I, R, tx1.1, tx1.2, tx2.1, tx2.2]
end K01
namespace K01
open PySem PySem.Spec PyProof.Rows L2 DL
def hd__law_start : He.DefD := ⟨("_law_start", none), "_law_start", "_law_start", defArgs s__law_start, defBody s__law_start, defScope s__law_start, [], []⟩
def hd__law_mixed : He.DefD := ⟨("_law_mixed", none), "_law_mixed", "_law_mixed", defArgs s__law_mixed, defBody s__law_mixed, defScope s__law_mixed, [], []⟩
def hd__law_draw : He.DefD := ⟨("_law_draw", none), "_law_draw", "_law_draw", defArgs s__law_draw, defBody s__law_draw, defScope s__law_draw, [], []⟩
def hd__law_number : He.DefD := ⟨("_law_number", none), "_law_number", "_law_number", defArgs s__law_number, defBody s__law_number, defScope s__law_number, [], []⟩
def hd_is_whole : He.DefD := ⟨("is_whole", none), "is_whole", "is_whole", defArgs s_is_whole, defBody s_is_whole, defScope s_is_whole, [.non, .non], []⟩
def hd_lowest : He.DefD := ⟨("lowest", none), "lowest", "lowest", defArgs s_lowest, defBody s_lowest, defScope s_lowest, [], []⟩
def hd_make_ratio : He.DefD := ⟨("make_ratio", none), "make_ratio", "make_ratio", defArgs s_make_ratio, defBody s_make_ratio, defScope s_make_ratio, [.int 1], []⟩
def hd__law_made : He.DefD := ⟨("_law_made", none), "_law_made", "_law_made", defArgs s__law_made, defBody s__law_made, defScope s__law_made, [], []⟩
def hd__law_gcd : He.DefD := ⟨("_law_gcd", none), "_law_gcd", "_law_gcd", defArgs s__law_gcd, defBody s__law_gcd, defScope s__law_gcd, [], []⟩
def hd__law_ratio : He.DefD := ⟨("_law_ratio", none), "_law_ratio", "_law_ratio", defArgs s__law_ratio, defBody s__law_ratio, defScope s__law_ratio, [], []⟩
def hd__law_is_ratio : He.DefD := ⟨("_law_is_ratio", none), "_law_is_ratio", "_law_is_ratio", defArgs s__law_is_ratio, defBody s__law_is_ratio, defScope s__law_is_ratio, [], []⟩
def hd__law_made_rightly : He.DefD := ⟨("_law_made_rightly", none), "_law_made_rightly", "_law_made_rightly", defArgs s__law_made_rightly, defBody s__law_made_rightly, defScope s__law_made_rightly, [], []⟩
def hd_is_ratio : He.DefD := ⟨("is_ratio", none), "is_ratio", "is_ratio", defArgs s_is_ratio, defBody s_is_ratio, defScope s_is_ratio, [], []⟩
def hd__law_told : He.DefD := ⟨("_law_told", none), "_law_told", "_law_told", defArgs s__law_told, defBody s__law_told, defScope s__law_told, [], []⟩
def hd__law_odd_rightly : He.DefD := ⟨("_law_odd_rightly", none), "_law_odd_rightly", "_law_odd_rightly", defArgs s__law_odd_rightly, defBody s__law_odd_rightly, defScope s__law_odd_rightly, [], []⟩
def hd__law_whole_rightly : He.DefD := ⟨("_law_whole_rightly", none), "_law_whole_rightly", "_law_whole_rightly", defArgs s__law_whole_rightly, defBody s__law_whole_rightly, defScope s__law_whole_rightly, [], []⟩
def hd_ratio_negative : He.DefD := ⟨("ratio_negative", none), "ratio_negative", "ratio_negative", defArgs s_ratio_negative, defBody s_ratio_negative, defScope s_ratio_negative, [], []⟩
def hd_ratio_times : He.DefD := ⟨("ratio_times", none), "ratio_times", "ratio_times", defArgs s_ratio_times, defBody s_ratio_times, defScope s_ratio_times, [], []⟩
def hd_ratio_minus : He.DefD := ⟨("ratio_minus", none), "ratio_minus", "ratio_minus", defArgs s_ratio_minus, defBody s_ratio_minus, defScope s_ratio_minus, [], []⟩
def hd_ratio_plus : He.DefD := ⟨("ratio_plus", none), "ratio_plus", "ratio_plus", defArgs s_ratio_plus, defBody s_ratio_plus, defScope s_ratio_plus, [], []⟩
def hd_ratio_power : He.DefD := ⟨("ratio_power", none), "ratio_power", "ratio_power", defArgs s_ratio_power, defBody s_ratio_power, defScope s_ratio_power, [], []⟩
def hd__law_times : He.DefD := ⟨("_law_times", none), "_law_times", "_law_times", defArgs s__law_times, defBody s__law_times, defScope s__law_times, [], []⟩
def hd__law_plus : He.DefD := ⟨("_law_plus", none), "_law_plus", "_law_plus", defArgs s__law_plus, defBody s__law_plus, defScope s__law_plus, [], []⟩
def hd_ratio_over : He.DefD := ⟨("ratio_over", none), "ratio_over", "ratio_over", defArgs s_ratio_over, defBody s_ratio_over, defScope s_ratio_over, [], []⟩
def hd__law_divided : He.DefD := ⟨("_law_divided", none), "_law_divided", "_law_divided", defArgs s__law_divided, defBody s__law_divided, defScope s__law_divided, [], []⟩
def hd_ratio_compare : He.DefD := ⟨("ratio_compare", none), "ratio_compare", "ratio_compare", defArgs s_ratio_compare, defBody s_ratio_compare, defScope s_ratio_compare, [], []⟩
def hd_ratio_text : He.DefD := ⟨("ratio_text", none), "ratio_text", "ratio_text", defArgs s_ratio_text, defBody s_ratio_text, defScope s_ratio_text, [], []⟩
def hd__law_text : He.DefD := ⟨("_law_text", none), "_law_text", "_law_text", defArgs s__law_text, defBody s__law_text, defScope s__law_text, [], []⟩
def hd_law : He.DefD := ⟨("law", none), "law", "law", defArgs s_law, defBody s_law, defScope s_law, [], []⟩
def hd_init_BadRatio : He.DefD := ⟨("BadRatio", some "__init__"), "__init__", "BadRatio.__init__", defArgs si_BadRatio, defBody si_BadRatio, defScope si_BadRatio, [], []⟩
def hd_init_DividedByNought : He.DefD := ⟨("DividedByNought", some "__init__"), "__init__", "DividedByNought.__init__", defArgs si_DividedByNought, defBody si_DividedByNought, defScope si_DividedByNought, [], []⟩
def hfn : List He.DefD := ([hd__law_start, hd__law_mixed, hd__law_draw, hd__law_number, hd_is_whole, hd_lowest, hd_make_ratio, hd__law_made, hd__law_gcd, hd__law_ratio, hd__law_is_ratio, hd__law_made_rightly, hd_is_ratio, hd__law_told, hd__law_odd_rightly, hd__law_whole_rightly, hd_ratio_negative, hd_ratio_times, hd_ratio_minus, hd_ratio_plus, hd_ratio_power, hd__law_times, hd__law_plus, hd_ratio_over, hd__law_divided, hd_ratio_compare, hd_ratio_text, hd__law_text, hd_law, hd_init_BadRatio] : List He.DefD) ++ ([hd_init_DividedByNought] : List He.DefD)
def hfa : List He.Fa := ([.glo "_law_start", .glo "_law_mixed", .glo "_law_draw", .glo "_law_number", .glo "is_whole", .glo "lowest", .glo "make_ratio", .glo "_law_made", .glo "_law_gcd", .glo "_law_ratio", .glo "_law_is_ratio", .glo "_law_made_rightly", .glo "is_ratio", .glo "_law_told", .glo "_law_odd_rightly", .glo "_law_whole_rightly", .glo "ratio_negative", .glo "ratio_times", .glo "ratio_minus", .glo "ratio_plus", .glo "ratio_power", .glo "_law_times", .glo "_law_plus", .glo "ratio_over", .glo "_law_divided", .glo "ratio_compare", .glo "ratio_text", .glo "_law_text", .glo "law", .glo "BadRatio"] : List He.Fa) ++ ([.glo "DividedByNought", .exm "BadRatio" "BadRatio" true, .exm "DividedByNought" "BadRatio" false, .exm "BadRatio" "DividedByNought" false, .exm "DividedByNought" "DividedByNought" true, .free "abs", .free "all", .free "bool", .free "int", .free "isinstance", .free "len", .free "range", .free "str", .free "tuple"] : List He.Fa)
def hex (K : PySem.W.Frag) : Bool := (excB K "BadRatio" ["what"] && (excB K "DividedByNought" [] && (conB K "ZERO" k_ZERO && (conB K "ONE" k_ONE && (bltB K "gcd" "math.gcd" && true)))))
abbrev opR : PySem.W.OpenRow := PySem.W.OpenLaw.row PySem.Challenge.rw_neverfactored_k01_whole_ratios_reckoned
abbrev hk : PySem.W.Hook := hookX 5 hfa hfn hex
def ob (s : PySem.W.SharedT) : AlX := obsXG 5 hfa hfn hex (HandSHeadRun.getT s)
theorem ob_eq (s : PySem.W.SharedT) : ob s = hk.obs s.abs := obsXG_eq (HandSHeadRun.getT_eq s)
def names : List Str := (["RootError", "BadRatio", "DividedByNought", "ZERO", "ONE", "is_whole", "is_ratio", "lowest", "make_ratio", "ratio_plus", "ratio_minus", "ratio_times", "ratio_over", "ratio_negative", "ratio_power", "ratio_compare", "ratio_text", "_law_start", "_law_mixed", "_law_draw", "_law_gcd", "_law_ratio", "_law_plus", "_law_times", "_law_is_ratio", "_law_told", "_law_number", "_law_made", "_law_divided", "_law_text"] : List Str) ++ (["_law_made_rightly", "_law_odd_rightly", "_law_whole_rightly"] : List Str)
theorem run (w : World) : HandSHeadRun.RunEqI opR (PySem.W.view opR.prog [0, 37]) hk ob 20000 names w := by
  unfold HandSHeadRun.RunEqI
  kernel_rfl
theorem ggr_is_whole_1_low_high {vs ds zs : List V} {us its ws : List Value} (h1 : Vals vs us) (h2 : Vals ds its) (h3 : Vals zs ws) : Vals (ggg_is_whole_1_low_high vs ds zs) (ggg_is_whole_1_low_high us its ws) := by
  by_cases hl : vs.length = 1 ∧ ds.length = 2 ∧ zs.length = 2
  · obtain ⟨l1, l2, l3⟩ := hl
    match vs, us, ds, its, zs, ws, h1, h2, h3, l1, l2, l3 with
    | [v0], [u0], [d0, d1], [i0, i1], [z0, z1], [w0, w1], (.cons r0 .nil), (.cons p0 (.cons p1 .nil)), (.cons q0 (.cons q1 .nil)), _, _, _ =>
      exact (.cons r0 (.cons q0 (.cons q1 .nil)))
  · have e1 : ggg_is_whole_1_low_high vs ds zs = [] := by
      unfold ggg_is_whole_1_low_high
      split
      · exact absurd ⟨rfl, rfl, rfl⟩ hl
      · rfl
    have e2 : ggg_is_whole_1_low_high us its ws = [] := by
      unfold ggg_is_whole_1_low_high
      split
      · exact absurd ⟨h1.length, h2.length, h3.length⟩ hl
      · rfl
    rw [e1, e2]
    exact .nil
theorem ggr_is_whole_1_high {vs ds zs : List V} {us its ws : List Value} (h1 : Vals vs us) (h2 : Vals ds its) (h3 : Vals zs ws) : Vals (ggg_is_whole_1_high vs ds zs) (ggg_is_whole_1_high us its ws) := by
  by_cases hl : vs.length = 1 ∧ ds.length = 2 ∧ zs.length = 1
  · obtain ⟨l1, l2, l3⟩ := hl
    match vs, us, ds, its, zs, ws, h1, h2, h3, l1, l2, l3 with
    | [v0], [u0], [d0, d1], [i0, i1], [z0], [w0], (.cons r0 .nil), (.cons p0 (.cons p1 .nil)), (.cons q0 .nil), _, _, _ =>
      exact (.cons r0 (.cons p0 (.cons q0 .nil)))
  · have e1 : ggg_is_whole_1_high vs ds zs = [] := by
      unfold ggg_is_whole_1_high
      split
      · exact absurd ⟨rfl, rfl, rfl⟩ hl
      · rfl
    have e2 : ggg_is_whole_1_high us its ws = [] := by
      unfold ggg_is_whole_1_high
      split
      · exact absurd ⟨h1.length, h2.length, h3.length⟩ hl
      · rfl
    rw [e1, e2]
    exact .nil
theorem tops {K : PySem.W.Frag} {h : Heap} {mg : Str → Option Value} (X : K.In h) (G : h.Ns mainGlobals mg) (c : SaysX hfa hfn hex K) : ∃ t : Adr, Top K mg t ∧ t.a_law = He.ga K "law" ∧ ∀ (s : Shared) (us : List Value), us.length = 1 → BindsTo s t.fd_law ⟨us, []⟩ ((["_law_script"] : List Str).zip us) := by
  obtain ⟨fd__law_start, F__law_start⟩ : ∃ fd, FunD K "_law_start" "_law_start" (defArgs s__law_start) (defBody s__law_start) (defScope s__law_start) [] [] (He.ga K "_law_start") fd := c.d.def_ 0 (d := hd__law_start) rfl
  obtain ⟨fd__law_mixed, F__law_mixed⟩ : ∃ fd, FunD K "_law_mixed" "_law_mixed" (defArgs s__law_mixed) (defBody s__law_mixed) (defScope s__law_mixed) [] [] (He.ga K "_law_mixed") fd := c.d.def_ 1 (d := hd__law_mixed) rfl
  obtain ⟨fd__law_draw, F__law_draw⟩ : ∃ fd, FunD K "_law_draw" "_law_draw" (defArgs s__law_draw) (defBody s__law_draw) (defScope s__law_draw) [] [] (He.ga K "_law_draw") fd := c.d.def_ 2 (d := hd__law_draw) rfl
  obtain ⟨fd__law_number, F__law_number⟩ : ∃ fd, FunD K "_law_number" "_law_number" (defArgs s__law_number) (defBody s__law_number) (defScope s__law_number) [] [] (He.ga K "_law_number") fd := c.d.def_ 3 (d := hd__law_number) rfl
  obtain ⟨fd_is_whole, F_is_whole⟩ : ∃ fd, FunD K "is_whole" "is_whole" (defArgs s_is_whole) (defBody s_is_whole) (defScope s_is_whole) [.non, .non] [] (He.ga K "is_whole") fd := c.d.def_ 4 (d := hd_is_whole) rfl
  obtain ⟨fd_lowest, F_lowest⟩ : ∃ fd, FunD K "lowest" "lowest" (defArgs s_lowest) (defBody s_lowest) (defScope s_lowest) [] [] (He.ga K "lowest") fd := c.d.def_ 5 (d := hd_lowest) rfl
  obtain ⟨fd_make_ratio, F_make_ratio⟩ : ∃ fd, FunD K "make_ratio" "make_ratio" (defArgs s_make_ratio) (defBody s_make_ratio) (defScope s_make_ratio) [.int 1] [] (He.ga K "make_ratio") fd := c.d.def_ 6 (d := hd_make_ratio) rfl
  obtain ⟨fd__law_made, F__law_made⟩ : ∃ fd, FunD K "_law_made" "_law_made" (defArgs s__law_made) (defBody s__law_made) (defScope s__law_made) [] [] (He.ga K "_law_made") fd := c.d.def_ 7 (d := hd__law_made) rfl
  obtain ⟨fd__law_gcd, F__law_gcd⟩ : ∃ fd, FunD K "_law_gcd" "_law_gcd" (defArgs s__law_gcd) (defBody s__law_gcd) (defScope s__law_gcd) [] [] (He.ga K "_law_gcd") fd := c.d.def_ 8 (d := hd__law_gcd) rfl
  obtain ⟨fd__law_ratio, F__law_ratio⟩ : ∃ fd, FunD K "_law_ratio" "_law_ratio" (defArgs s__law_ratio) (defBody s__law_ratio) (defScope s__law_ratio) [] [] (He.ga K "_law_ratio") fd := c.d.def_ 9 (d := hd__law_ratio) rfl
  obtain ⟨fd__law_is_ratio, F__law_is_ratio⟩ : ∃ fd, FunD K "_law_is_ratio" "_law_is_ratio" (defArgs s__law_is_ratio) (defBody s__law_is_ratio) (defScope s__law_is_ratio) [] [] (He.ga K "_law_is_ratio") fd := c.d.def_ 10 (d := hd__law_is_ratio) rfl
  obtain ⟨fd__law_made_rightly, F__law_made_rightly⟩ : ∃ fd, FunD K "_law_made_rightly" "_law_made_rightly" (defArgs s__law_made_rightly) (defBody s__law_made_rightly) (defScope s__law_made_rightly) [] [] (He.ga K "_law_made_rightly") fd := c.d.def_ 11 (d := hd__law_made_rightly) rfl
  obtain ⟨fd_is_ratio, F_is_ratio⟩ : ∃ fd, FunD K "is_ratio" "is_ratio" (defArgs s_is_ratio) (defBody s_is_ratio) (defScope s_is_ratio) [] [] (He.ga K "is_ratio") fd := c.d.def_ 12 (d := hd_is_ratio) rfl
  obtain ⟨fd__law_told, F__law_told⟩ : ∃ fd, FunD K "_law_told" "_law_told" (defArgs s__law_told) (defBody s__law_told) (defScope s__law_told) [] [] (He.ga K "_law_told") fd := c.d.def_ 13 (d := hd__law_told) rfl
  obtain ⟨fd__law_odd_rightly, F__law_odd_rightly⟩ : ∃ fd, FunD K "_law_odd_rightly" "_law_odd_rightly" (defArgs s__law_odd_rightly) (defBody s__law_odd_rightly) (defScope s__law_odd_rightly) [] [] (He.ga K "_law_odd_rightly") fd := c.d.def_ 14 (d := hd__law_odd_rightly) rfl
  obtain ⟨fd__law_whole_rightly, F__law_whole_rightly⟩ : ∃ fd, FunD K "_law_whole_rightly" "_law_whole_rightly" (defArgs s__law_whole_rightly) (defBody s__law_whole_rightly) (defScope s__law_whole_rightly) [] [] (He.ga K "_law_whole_rightly") fd := c.d.def_ 15 (d := hd__law_whole_rightly) rfl
  obtain ⟨fd_ratio_negative, F_ratio_negative⟩ : ∃ fd, FunD K "ratio_negative" "ratio_negative" (defArgs s_ratio_negative) (defBody s_ratio_negative) (defScope s_ratio_negative) [] [] (He.ga K "ratio_negative") fd := c.d.def_ 16 (d := hd_ratio_negative) rfl
  obtain ⟨fd_ratio_times, F_ratio_times⟩ : ∃ fd, FunD K "ratio_times" "ratio_times" (defArgs s_ratio_times) (defBody s_ratio_times) (defScope s_ratio_times) [] [] (He.ga K "ratio_times") fd := c.d.def_ 17 (d := hd_ratio_times) rfl
  obtain ⟨fd_ratio_minus, F_ratio_minus⟩ : ∃ fd, FunD K "ratio_minus" "ratio_minus" (defArgs s_ratio_minus) (defBody s_ratio_minus) (defScope s_ratio_minus) [] [] (He.ga K "ratio_minus") fd := c.d.def_ 18 (d := hd_ratio_minus) rfl
  obtain ⟨fd_ratio_plus, F_ratio_plus⟩ : ∃ fd, FunD K "ratio_plus" "ratio_plus" (defArgs s_ratio_plus) (defBody s_ratio_plus) (defScope s_ratio_plus) [] [] (He.ga K "ratio_plus") fd := c.d.def_ 19 (d := hd_ratio_plus) rfl
  obtain ⟨fd_ratio_power, F_ratio_power⟩ : ∃ fd, FunD K "ratio_power" "ratio_power" (defArgs s_ratio_power) (defBody s_ratio_power) (defScope s_ratio_power) [] [] (He.ga K "ratio_power") fd := c.d.def_ 20 (d := hd_ratio_power) rfl
  obtain ⟨fd__law_times, F__law_times⟩ : ∃ fd, FunD K "_law_times" "_law_times" (defArgs s__law_times) (defBody s__law_times) (defScope s__law_times) [] [] (He.ga K "_law_times") fd := c.d.def_ 21 (d := hd__law_times) rfl
  obtain ⟨fd__law_plus, F__law_plus⟩ : ∃ fd, FunD K "_law_plus" "_law_plus" (defArgs s__law_plus) (defBody s__law_plus) (defScope s__law_plus) [] [] (He.ga K "_law_plus") fd := c.d.def_ 22 (d := hd__law_plus) rfl
  obtain ⟨fd_ratio_over, F_ratio_over⟩ : ∃ fd, FunD K "ratio_over" "ratio_over" (defArgs s_ratio_over) (defBody s_ratio_over) (defScope s_ratio_over) [] [] (He.ga K "ratio_over") fd := c.d.def_ 23 (d := hd_ratio_over) rfl
  obtain ⟨fd__law_divided, F__law_divided⟩ : ∃ fd, FunD K "_law_divided" "_law_divided" (defArgs s__law_divided) (defBody s__law_divided) (defScope s__law_divided) [] [] (He.ga K "_law_divided") fd := c.d.def_ 24 (d := hd__law_divided) rfl
  obtain ⟨fd_ratio_compare, F_ratio_compare⟩ : ∃ fd, FunD K "ratio_compare" "ratio_compare" (defArgs s_ratio_compare) (defBody s_ratio_compare) (defScope s_ratio_compare) [] [] (He.ga K "ratio_compare") fd := c.d.def_ 25 (d := hd_ratio_compare) rfl
  obtain ⟨fd_ratio_text, F_ratio_text⟩ : ∃ fd, FunD K "ratio_text" "ratio_text" (defArgs s_ratio_text) (defBody s_ratio_text) (defScope s_ratio_text) [] [] (He.ga K "ratio_text") fd := c.d.def_ 26 (d := hd_ratio_text) rfl
  obtain ⟨fd__law_text, F__law_text⟩ : ∃ fd, FunD K "_law_text" "_law_text" (defArgs s__law_text) (defBody s__law_text) (defScope s__law_text) [] [] (He.ga K "_law_text") fd := c.d.def_ 27 (d := hd__law_text) rfl
  obtain ⟨fd_law, F_law⟩ : ∃ fd, FunD K "law" "law" (defArgs s_law) (defBody s_law) (defScope s_law) [] [] (He.ga K "law") fd := c.d.def_ 28 (d := hd_law) rfl
  obtain ⟨fi_BadRatio, Fi_BadRatio⟩ : ∃ fd, FunD K "__init__" "BadRatio.__init__" (defArgs si_BadRatio) (defBody si_BadRatio) (defScope si_BadRatio) [] [] (He.ma K (He.ga K "BadRatio") "__init__") fd := c.d.def_ 29 (d := hd_init_BadRatio) rfl
  obtain ⟨fi_DividedByNought, Fi_DividedByNought⟩ : ∃ fd, FunD K "__init__" "DividedByNought.__init__" (defArgs si_DividedByNought) (defBody si_DividedByNought) (defScope si_DividedByNought) [] [] (He.ma K (He.ga K "DividedByNought") "__init__") fd := c.d.def_ 30 (d := hd_init_DividedByNought) rfl
  have e0 := c.x
  obtain ⟨x0, e1⟩ := He.ba e0
  obtain ⟨x1, e2⟩ := He.ba e1
  obtain ⟨x2, e3⟩ := He.ba e2
  obtain ⟨x3, e4⟩ := He.ba e3
  obtain ⟨x4, e5⟩ := He.ba e4
  have t_BadRatio := excB_ok x0
  have t_DividedByNought := excB_ok x1
  have k_ZERO := conB_ok X G x2
  have k_ONE := conB_ok X G x3
  obtain ⟨ds_is_whole_1, b_is_whole_1⟩ := FunD.binds1 (ps := ["thing", "low", "high"]) F_is_whole 1 0 (by simp) rfl (fun _ _ _ _ _ _ _ us its hu hi => match us, its, hu, hi with | [_], [_, _], _, _ => ⟨_, rfl, rfl⟩)
  obtain ⟨ds_is_whole_2, b_is_whole_2⟩ := FunD.binds1 (ps := ["thing", "low", "high"]) F_is_whole 2 1 (by simp) rfl (fun _ _ _ _ _ _ _ us its hu hi => match us, its, hu, hi with | [_, _], [_, _], _, _ => ⟨_, rfl, rfl⟩)
  obtain ⟨ds_is_whole_3, b_is_whole_3⟩ := FunD.binds1 (ps := ["thing", "low", "high"]) F_is_whole 3 2 (by simp) rfl (fun _ _ _ _ _ _ _ us its hu hi => match us, its, hu, hi with | [_, _, _], [_, _], _, _ => ⟨_, rfl, rfl⟩)
  obtain ⟨ks_is_whole_1_low_high, kb_is_whole_1_low_high⟩ := FunD.kbindsD (ps := ["thing", "low", "high"]) F_is_whole 1 ["low", "high"] (fun us its ws => ggg_is_whole_1_low_high us its ws) (by simp) ggr_is_whole_1_low_high (fun _ _ _ _ _ _ _ us its ws hu hi hw => match us, its, ws, hu, hi, hw with | [_], [_, _], [_, _], _, _, _ => ⟨_, rfl, rfl⟩)
  obtain ⟨ks_is_whole_1_high, kb_is_whole_1_high⟩ := FunD.kbindsD (ps := ["thing", "low", "high"]) F_is_whole 1 ["high"] (fun us its ws => ggg_is_whole_1_high us its ws) (by simp) ggr_is_whole_1_high (fun _ _ _ _ _ _ _ us its ws hu hi hw => match us, its, ws, hu, hi, hw with | [_], [_, _], [_], _, _, _ => ⟨_, rfl, rfl⟩)
  obtain ⟨ds_make_ratio_2, b_make_ratio_2⟩ := FunD.binds1 (ps := ["top", "bottom"]) F_make_ratio 2 1 (by simp) rfl (fun _ _ _ _ _ _ _ us its hu hi => match us, its, hu, hi with | [_, _], [_], _, _ => ⟨_, rfl, rfl⟩)
  obtain ⟨ds_make_ratio_1, b_make_ratio_1⟩ := FunD.binds1 (ps := ["top", "bottom"]) F_make_ratio 1 0 (by simp) rfl (fun _ _ _ _ _ _ _ us its hu hi => match us, its, hu, hi with | [_], [_], _, _ => ⟨_, rfl, rfl⟩)
  refine ⟨{ a__law_start := He.ga K "_law_start", fd__law_start := fd__law_start, a__law_mixed := He.ga K "_law_mixed", fd__law_mixed := fd__law_mixed, a__law_draw := He.ga K "_law_draw", fd__law_draw := fd__law_draw, a__law_number := He.ga K "_law_number", fd__law_number := fd__law_number, a_is_whole := He.ga K "is_whole", fd_is_whole := fd_is_whole, a_lowest := He.ga K "lowest", fd_lowest := fd_lowest, a_make_ratio := He.ga K "make_ratio", fd_make_ratio := fd_make_ratio, a__law_made := He.ga K "_law_made", fd__law_made := fd__law_made, a__law_gcd := He.ga K "_law_gcd", fd__law_gcd := fd__law_gcd, a__law_ratio := He.ga K "_law_ratio", fd__law_ratio := fd__law_ratio, a__law_is_ratio := He.ga K "_law_is_ratio", fd__law_is_ratio := fd__law_is_ratio, a__law_made_rightly := He.ga K "_law_made_rightly", fd__law_made_rightly := fd__law_made_rightly, a_is_ratio := He.ga K "is_ratio", fd_is_ratio := fd_is_ratio, a__law_told := He.ga K "_law_told", fd__law_told := fd__law_told, a__law_odd_rightly := He.ga K "_law_odd_rightly", fd__law_odd_rightly := fd__law_odd_rightly, a__law_whole_rightly := He.ga K "_law_whole_rightly", fd__law_whole_rightly := fd__law_whole_rightly, a_ratio_negative := He.ga K "ratio_negative", fd_ratio_negative := fd_ratio_negative, a_ratio_times := He.ga K "ratio_times", fd_ratio_times := fd_ratio_times, a_ratio_minus := He.ga K "ratio_minus", fd_ratio_minus := fd_ratio_minus, a_ratio_plus := He.ga K "ratio_plus", fd_ratio_plus := fd_ratio_plus, a_ratio_power := He.ga K "ratio_power", fd_ratio_power := fd_ratio_power, a__law_times := He.ga K "_law_times", fd__law_times := fd__law_times, a__law_plus := He.ga K "_law_plus", fd__law_plus := fd__law_plus, a_ratio_over := He.ga K "ratio_over", fd_ratio_over := fd_ratio_over, a__law_divided := He.ga K "_law_divided", fd__law_divided := fd__law_divided, a_ratio_compare := He.ga K "ratio_compare", fd_ratio_compare := fd_ratio_compare, a_ratio_text := He.ga K "ratio_text", fd_ratio_text := fd_ratio_text, a__law_text := He.ga K "_law_text", fd__law_text := fd__law_text, a_law := He.ga K "law", fd_law := fd_law, c_BadRatio := He.ga K "BadRatio", ai_BadRatio := He.ma K (He.ga K "BadRatio") "__init__", fi_BadRatio := fi_BadRatio, c_DividedByNought := He.ga K "DividedByNought", ai_DividedByNought := He.ma K (He.ga K "DividedByNought") "__init__", fi_DividedByNought := fi_DividedByNought, a_ZERO := He.ga K "ZERO", a_ONE := He.ga K "ONE", ds_is_whole_1 := ds_is_whole_1, ds_make_ratio_2 := ds_make_ratio_2, ds_is_whole_2 := ds_is_whole_2, ds_is_whole_3 := ds_is_whole_3, ds_make_ratio_1 := ds_make_ratio_1, ks_is_whole_1_low_high := ks_is_whole_1_low_high, ks_is_whole_1_high := ks_is_whole_1_high }, ?_, rfl, FunD.bindsA (ps := ["_law_script"]) F_law (fun _ _ _ _ _ _ us hl => match us, hl with | [_], _ => rfl)⟩
  exact {
    g__law_start := He.glo_ok X G (c.d.fact 0 (f := .glo "_law_start") rfl)
    F__law_start := funOf F__law_start
    b__law_start := (funOf F__law_start).binds (ps := ["_law_script"]) (fun _ _ _ _ _ _ us hl => match us, hl with | [_], _ => rfl)
    g__law_mixed := He.glo_ok X G (c.d.fact 1 (f := .glo "_law_mixed") rfl)
    F__law_mixed := funOf F__law_mixed
    b__law_mixed := (funOf F__law_mixed).binds (ps := ["_law_number_here", "_law_turn"]) (fun _ _ _ _ _ _ us hl => match us, hl with | [_, _], _ => rfl)
    g__law_draw := He.glo_ok X G (c.d.fact 2 (f := .glo "_law_draw") rfl)
    F__law_draw := funOf F__law_draw
    b__law_draw := (funOf F__law_draw).binds (ps := ["_law_hand", "_law_many"]) (fun _ _ _ _ _ _ us hl => match us, hl with | [_, _], _ => rfl)
    g__law_number := He.glo_ok X G (c.d.fact 3 (f := .glo "_law_number") rfl)
    F__law_number := funOf F__law_number
    b__law_number := (funOf F__law_number).binds (ps := ["_law_hand"]) (fun _ _ _ _ _ _ us hl => match us, hl with | [_], _ => rfl)
    g_is_whole := He.glo_ok X G (c.d.fact 4 (f := .glo "is_whole") rfl)
    F_is_whole := F_is_whole
    b_is_whole_1 := b_is_whole_1
    b_is_whole_2 := b_is_whole_2
    b_is_whole_3 := b_is_whole_3
    kb_is_whole_1_low_high := kb_is_whole_1_low_high
    kb_is_whole_1_high := kb_is_whole_1_high
    g_lowest := He.glo_ok X G (c.d.fact 5 (f := .glo "lowest") rfl)
    F_lowest := funOf F_lowest
    b_lowest := (funOf F_lowest).binds (ps := ["top", "bottom"]) (fun _ _ _ _ _ _ us hl => match us, hl with | [_, _], _ => rfl)
    g_make_ratio := He.glo_ok X G (c.d.fact 6 (f := .glo "make_ratio") rfl)
    F_make_ratio := F_make_ratio
    b_make_ratio_2 := b_make_ratio_2
    b_make_ratio_1 := b_make_ratio_1
    g__law_made := He.glo_ok X G (c.d.fact 7 (f := .glo "_law_made") rfl)
    F__law_made := funOf F__law_made
    b__law_made := (funOf F__law_made).binds (ps := ["_law_top", "_law_bottom"]) (fun _ _ _ _ _ _ us hl => match us, hl with | [_, _], _ => rfl)
    g__law_gcd := He.glo_ok X G (c.d.fact 8 (f := .glo "_law_gcd") rfl)
    F__law_gcd := funOf F__law_gcd
    b__law_gcd := (funOf F__law_gcd).binds (ps := ["_law_a", "_law_b"]) (fun _ _ _ _ _ _ us hl => match us, hl with | [_, _], _ => rfl)
    g__law_ratio := He.glo_ok X G (c.d.fact 9 (f := .glo "_law_ratio") rfl)
    F__law_ratio := funOf F__law_ratio
    b__law_ratio := (funOf F__law_ratio).binds (ps := ["_law_top", "_law_bottom"]) (fun _ _ _ _ _ _ us hl => match us, hl with | [_, _], _ => rfl)
    g__law_is_ratio := He.glo_ok X G (c.d.fact 10 (f := .glo "_law_is_ratio") rfl)
    F__law_is_ratio := funOf F__law_is_ratio
    b__law_is_ratio := (funOf F__law_is_ratio).binds (ps := ["_law_thing"]) (fun _ _ _ _ _ _ us hl => match us, hl with | [_], _ => rfl)
    g__law_made_rightly := He.glo_ok X G (c.d.fact 11 (f := .glo "_law_made_rightly") rfl)
    F__law_made_rightly := funOf F__law_made_rightly
    b__law_made_rightly := (funOf F__law_made_rightly).binds (ps := ["_law_a", "_law_b"]) (fun _ _ _ _ _ _ us hl => match us, hl with | [_, _], _ => rfl)
    g_is_ratio := He.glo_ok X G (c.d.fact 12 (f := .glo "is_ratio") rfl)
    F_is_ratio := funOf F_is_ratio
    b_is_ratio := (funOf F_is_ratio).binds (ps := ["thing"]) (fun _ _ _ _ _ _ us hl => match us, hl with | [_], _ => rfl)
    g__law_told := He.glo_ok X G (c.d.fact 13 (f := .glo "_law_told") rfl)
    F__law_told := funOf F__law_told
    b__law_told := (funOf F__law_told).binds (ps := ["_law_found", "_law_due"]) (fun _ _ _ _ _ _ us hl => match us, hl with | [_, _], _ => rfl)
    g__law_odd_rightly := He.glo_ok X G (c.d.fact 14 (f := .glo "_law_odd_rightly") rfl)
    F__law_odd_rightly := funOf F__law_odd_rightly
    b__law_odd_rightly := (funOf F__law_odd_rightly).binds (ps := ["_law_a", "_law_b"]) (fun _ _ _ _ _ _ us hl => match us, hl with | [_, _], _ => rfl)
    g__law_whole_rightly := He.glo_ok X G (c.d.fact 15 (f := .glo "_law_whole_rightly") rfl)
    F__law_whole_rightly := funOf F__law_whole_rightly
    b__law_whole_rightly := (funOf F__law_whole_rightly).binds (ps := ["_law_a", "_law_low", "_law_high"]) (fun _ _ _ _ _ _ us hl => match us, hl with | [_, _, _], _ => rfl)
    g_ratio_negative := He.glo_ok X G (c.d.fact 16 (f := .glo "ratio_negative") rfl)
    F_ratio_negative := funOf F_ratio_negative
    b_ratio_negative := (funOf F_ratio_negative).binds (ps := ["one"]) (fun _ _ _ _ _ _ us hl => match us, hl with | [_], _ => rfl)
    g_ratio_times := He.glo_ok X G (c.d.fact 17 (f := .glo "ratio_times") rfl)
    F_ratio_times := funOf F_ratio_times
    b_ratio_times := (funOf F_ratio_times).binds (ps := ["one", "other"]) (fun _ _ _ _ _ _ us hl => match us, hl with | [_, _], _ => rfl)
    g_ratio_minus := He.glo_ok X G (c.d.fact 18 (f := .glo "ratio_minus") rfl)
    F_ratio_minus := funOf F_ratio_minus
    b_ratio_minus := (funOf F_ratio_minus).binds (ps := ["one", "other"]) (fun _ _ _ _ _ _ us hl => match us, hl with | [_, _], _ => rfl)
    g_ratio_plus := He.glo_ok X G (c.d.fact 19 (f := .glo "ratio_plus") rfl)
    F_ratio_plus := funOf F_ratio_plus
    b_ratio_plus := (funOf F_ratio_plus).binds (ps := ["one", "other"]) (fun _ _ _ _ _ _ us hl => match us, hl with | [_, _], _ => rfl)
    g_ratio_power := He.glo_ok X G (c.d.fact 20 (f := .glo "ratio_power") rfl)
    F_ratio_power := funOf F_ratio_power
    b_ratio_power := (funOf F_ratio_power).binds (ps := ["one", "power"]) (fun _ _ _ _ _ _ us hl => match us, hl with | [_, _], _ => rfl)
    g__law_times := He.glo_ok X G (c.d.fact 21 (f := .glo "_law_times") rfl)
    F__law_times := funOf F__law_times
    b__law_times := (funOf F__law_times).binds (ps := ["_law_a", "_law_b"]) (fun _ _ _ _ _ _ us hl => match us, hl with | [_, _], _ => rfl)
    g__law_plus := He.glo_ok X G (c.d.fact 22 (f := .glo "_law_plus") rfl)
    F__law_plus := funOf F__law_plus
    b__law_plus := (funOf F__law_plus).binds (ps := ["_law_a", "_law_b"]) (fun _ _ _ _ _ _ us hl => match us, hl with | [_, _], _ => rfl)
    g_ratio_over := He.glo_ok X G (c.d.fact 23 (f := .glo "ratio_over") rfl)
    F_ratio_over := funOf F_ratio_over
    b_ratio_over := (funOf F_ratio_over).binds (ps := ["one", "other"]) (fun _ _ _ _ _ _ us hl => match us, hl with | [_, _], _ => rfl)
    g__law_divided := He.glo_ok X G (c.d.fact 24 (f := .glo "_law_divided") rfl)
    F__law_divided := funOf F__law_divided
    b__law_divided := (funOf F__law_divided).binds (ps := ["_law_one", "_law_other"]) (fun _ _ _ _ _ _ us hl => match us, hl with | [_, _], _ => rfl)
    g_ratio_compare := He.glo_ok X G (c.d.fact 25 (f := .glo "ratio_compare") rfl)
    F_ratio_compare := funOf F_ratio_compare
    b_ratio_compare := (funOf F_ratio_compare).binds (ps := ["one", "other"]) (fun _ _ _ _ _ _ us hl => match us, hl with | [_, _], _ => rfl)
    g_ratio_text := He.glo_ok X G (c.d.fact 26 (f := .glo "ratio_text") rfl)
    F_ratio_text := funOf F_ratio_text
    b_ratio_text := (funOf F_ratio_text).binds (ps := ["one"]) (fun _ _ _ _ _ _ us hl => match us, hl with | [_], _ => rfl)
    g__law_text := He.glo_ok X G (c.d.fact 27 (f := .glo "_law_text") rfl)
    F__law_text := funOf F__law_text
    b__law_text := (funOf F__law_text).binds (ps := ["_law_one"]) (fun _ _ _ _ _ _ us hl => match us, hl with | [_], _ => rfl)
    g_law := He.glo_ok X G (c.d.fact 28 (f := .glo "law") rfl)
    F_law := funOf F_law
    b_law := (funOf F_law).binds (ps := ["_law_script"]) (fun _ _ _ _ _ _ us hl => match us, hl with | [_], _ => rfl)
    g_BadRatio := He.glo_ok X G (c.d.fact 29 (f := .glo "BadRatio") rfl)
    ox_BadRatio := t_BadRatio.ox
    i_BadRatio := t_BadRatio.i
    ti_BadRatio := t_BadRatio.ti
    Fi_BadRatio := funOf Fi_BadRatio
    no_BadRatio := t_BadRatio.no
    xf_BadRatio := t_BadRatio.xf
    bi_BadRatio := (funOf Fi_BadRatio).binds (ps := ["self", "what"]) (fun _ _ _ _ _ _ us hl => match us, hl with | [_, _], _ => rfl)
    g_DividedByNought := He.glo_ok X G (c.d.fact 30 (f := .glo "DividedByNought") rfl)
    ox_DividedByNought := t_DividedByNought.ox
    i_DividedByNought := t_DividedByNought.i
    ti_DividedByNought := t_DividedByNought.ti
    Fi_DividedByNought := funOf Fi_DividedByNought
    no_DividedByNought := t_DividedByNought.no
    xf_DividedByNought := t_DividedByNought.xf
    bi_DividedByNought := (funOf Fi_DividedByNought).binds (ps := ["self"]) (fun _ _ _ _ _ _ us hl => match us, hl with | [_], _ => rfl)
    isA_BadRatio := by
      intro e b h
      unfold isA_BadRatio at h
      split at h
      · cases h; exact He.exm_ok (c.d.fact 31 (f := .exm "BadRatio" "BadRatio" true) rfl)
      · cases h; exact He.exm_ok (c.d.fact 32 (f := .exm "DividedByNought" "BadRatio" false) rfl)
      · cases h
    isA_DividedByNought := by
      intro e b h
      unfold isA_DividedByNought at h
      split at h
      · cases h; exact He.exm_ok (c.d.fact 33 (f := .exm "BadRatio" "DividedByNought" false) rfl)
      · cases h; exact He.exm_ok (c.d.fact 34 (f := .exm "DividedByNought" "DividedByNought" true) rfl)
      · cases h
    g_ZERO := k_ZERO.1
    r_ZERO := k_ZERO.2
    g_ONE := k_ONE.1
    r_ONE := k_ONE.2
    g_gcd := PySem.W.mg_of X G (He.eqO_ok x4)
    z_abs := He.free_ok X G (c.d.fact 35 (f := .free "abs") rfl)
    z_all := He.free_ok X G (c.d.fact 36 (f := .free "all") rfl)
    z_bool := He.free_ok X G (c.d.fact 37 (f := .free "bool") rfl)
    z_int := He.free_ok X G (c.d.fact 38 (f := .free "int") rfl)
    z_isinstance := He.free_ok X G (c.d.fact 39 (f := .free "isinstance") rfl)
    z_len := He.free_ok X G (c.d.fact 40 (f := .free "len") rfl)
    z_range := He.free_ok X G (c.d.fact 41 (f := .free "range") rfl)
    z_str := He.free_ok X G (c.d.fact 42 (f := .free "str") rfl)
    z_tuple := He.free_ok X G (c.d.fact 43 (f := .free "tuple") rfl) }
end K01
open PySem PySem.W PySem.Calls PyProof.Rows
theorem PySem.Challenge.cw_neverfactored_k01_whole_ratios_reckoned_holds : PySem.Challenge.rw_neverfactored_k01_whole_ratios_reckoned.Holds := by
  w_on; o_law
  refine HandSHeadRun.head_imp (r := OpenLaw.row PySem.Challenge.rw_neverfactored_k01_whole_ratios_reckoned) (q := view (OpenLaw.row PySem.Challenge.rw_neverfactored_k01_whole_ratios_reckoned).prog [0, 37]) (H := K01.hk) (ob := K01.ob) (M := 20000) (loose := K01.names) (d := HandSHeadRun.topDef (OpenLaw.row PySem.Challenge.rw_neverfactored_k01_whole_ratios_reckoned).prog 37) (kwd := []) K01.ob_eq
    K01.run (by kernel_rfl) (by kernel_rfl) (by kernel_rfl) (by rfl) (by first | assumption | decide +kernel) (by decide +kernel) ⟨rfl, rfl, rfl, rfl, rfl, by decide +kernel⟩ ?hw ?hc
  case hw => w_witness2
  case hc =>
    refine DL.walkC (l := PySem.Challenge.rw_neverfactored_k01_whole_ratios_reckoned) (n := 63) (k := 6) (x := "_law_script") rfl (by decide) (by kernel_rfl) ⟨rfl, by decide, by decide⟩ ?F
    intro w mg fa h Y G hmg0
    obtain ⟨K, KX, c⟩ := Y
    have hmg : mg ("law" : PySem.Str) = some (.ref fa) := by
      have e : (HandSHeadRun.topDef (OpenLaw.row PySem.Challenge.rw_neverfactored_k01_whole_ratios_reckoned).prog 37).name = ("law" : PySem.Str) := by kernel_rfl
      rw [← e]
      exact hmg0
    obtain ⟨t, T, ea, hb⟩ := K01.tops KX G c
    have e := hmg.symm.trans T.g_law
    cases e
    exact ⟨K, t.fd_law, DL.spLaw K, KX, fun s v => hb s [v] rfl, fun H a ns hl _ hS => ⟨a, ns, rfl, hl, hS, fun _ => rfl⟩, fun base _ _ => DL.law_of (K01.ok_law T) K01.law_eq⟩
