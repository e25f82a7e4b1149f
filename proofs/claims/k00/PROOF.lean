import PyProof.Rows.All
import Wide.All
import OpenK.AllK
import Wide.FinOn
import HandS.ForMost
import HandS.Exc
import HandS.TryOnly
import HandS.TryMany
import HandS.ExcOwn
import HandS.WordsExc
import HandS.ExcInit
import HandS.ExcField
import HandS.Wide
import HandS.Gcd
import HandS.IsInst
import HandS.Defaults
import HandS.HeadHook1
import HandS.TupAny
import HandS.TupLe
import HandS.CallSlots
import KE.KExcIs
import KE.KIsAll
import HandS.ClsMeth
import HandS.MakeKwOnly
import HandS.ExcValue
import HandS.Style
import KE.KStateDown
import HandS.MakeKw
import HandS.Head0
import HandS.Head1
import HandS.Head2
import HandS.HeadEnd
import HandS.HeadHook2
import HandS.Head3
import PySem.Challenge.RW_neverfactored_k00_whole_errors_side_by_s
set_option Elab.async false
set_option linter.all false
set_option maxRecDepth 100000
set_option maxHeartbeats 0
set_option exponentiation.threshold 10000
namespace DL
open PySem PySem.Spec L2
abbrev St := L2.St

inductive PD where
  | non | bl (b : Bool) | int (i : Int) | str (x : Str) | tup (l : List PD) | lst (l : List PD)
  | obj (c : Str) (ns : List Str) (l : List PD)
  deriving Inhabited

/-- v stands for d in the frozen heap G -/
inductive Rp (K : PySem.W.Frag) (G : Hp) : V → PD → Prop
  | non : Rp K G .non .non
  | bl (b : Bool) : Rp K G (.bl b) (.bl b)
  | int (i : Int) : Rp K G (.int i) (.int i)
  | str (x : Str) : Rp K G (.str x) (.str x)
  | tup {a : Addr} {xs : List V} {ds : List PD} : SqT K G a xs → Paired (Rp K G) xs ds → Rp K G (.ref a) (.tup ds)
  | lst {a : Addr} {xs : List V} {ds : List PD} : SqL K G a xs → Paired (Rp K G) xs ds → Rp K G (.ref a) (.lst ds)
  | exc {a : Addr} {d : Option Addr} {c : Str} {ns : List Str} {xs : List V} {ds : List PD} : G a = some (exo a (He.ga K c) d) → ((d = none ∧ ns = []) ∨ ∃ dx, d = some dx ∧ G dx = some (exd dx (ns.zip xs))) → ns.length = ds.length → Paired (Rp K G) xs ds → Rp K G (.ref a) (.obj c ns ds)

theorem Same.rd {H H' : Hp} {a : Addr} {u : HO} (e : Same H H') (h : Rd H a u) : Rd H' a u := by
  rcases h with h | ⟨o, h⟩
  · exact .inl (e _ _ h)
  · exact .inr ⟨o, e _ _ h⟩
theorem Same.seqT {K : PySem.W.Frag} {H H' : Hp} {a : Addr} {xs : List V} (e : Same H H') (h : SqT K H a xs) : SqT K H' a xs := by
  rcases h with (h | ⟨o, h⟩) | h
  · exact .inl (.inl (e _ _ h))
  · exact .inl (.inr ⟨o, e _ _ h⟩)
  · exact .inr h

mutual
theorem Rp.up {K : PySem.W.Frag} {G G' : Hp} (s : Same G G') : ∀ (d : PD) {v : V}, Rp K G v d → Rp K G' v d
  | .non, _, h => by cases h; exact .non
  | .bl _, _, h => by cases h; exact .bl _
  | .int _, _, h => by cases h; exact .int _
  | .str _, _, h => by cases h; exact .str _
  | .tup ds, _, h => by
    cases h with
    | tup q p => exact .tup (Same.seqT s q) (Rp.ups s ds p)
  | .lst ds, _, h => by
    cases h with
    | lst q p => exact .lst (s.seq q) (Rp.ups s ds p)
  | .obj _ _ ds, _, h => by
    cases h with
    | exc e q l p => exact .exc (s _ _ e) (q.imp id fun ⟨dx, e1, e2⟩ => ⟨dx, e1, s _ _ e2⟩) l (Rp.ups s ds p)
theorem Rp.ups {K : PySem.W.Frag} {G G' : Hp} (s : Same G G') : ∀ (ds : List PD) {vs : List V}, Paired (Rp K G) vs ds → Paired (Rp K G') vs ds
  | [], _, h => by cases h; exact .nil
  | d :: ds, _, h => by
    cases h with
    | cons r t => exact .cons (Rp.up s d r) (Rp.ups s ds t)
end

/-- a value of a running def: plain data, or the n-th cell -/
inductive D where
  | p (d : PD)
  | ref (n : Nat)
  deriving Inhabited

def RD (K : PySem.W.Frag) (G : Hp) (φ : List Addr) (v : V) : D → Prop
  | .p d => Rp K G v d
  | .ref n => ∃ a, φ[n]? = some a ∧ v = .ref a
abbrev RDs (K : PySem.W.Frag) (G : Hp) (φ : List Addr) : List V → List D → Prop := Paired (RD K G φ)

/-- a cell: a list that may change, or what was frozen -/
inductive Cell where
  | lst (l : List D)
  | froz (d : PD)
  deriving Inhabited

abbrev Fields := List (Str × PD)
structure DS where
  env : List (Option D)
  cells : List Cell
  ex : Option (Nat × Fields) := none

/-- the heap and the cells grow -/
structure Gr (G : Hp) (φ : List Addr) (G' : Hp) (φ' : List Addr) : Prop where
  g : Same G G'
  f : ∃ r, φ' = φ ++ r
theorem Gr.refl {G : Hp} {φ : List Addr} : Gr G φ G φ := ⟨Same.refl _, [], by simp⟩
theorem Gr.trans {G G1 G2 : Hp} {φ φ1 φ2 : List Addr} (a : Gr G φ G1 φ1) (b : Gr G1 φ1 G2 φ2) : Gr G φ G2 φ2 := by
  obtain ⟨a1, r1, e1⟩ := a
  obtain ⟨b1, r2, e2⟩ := b
  exact ⟨a1.trans b1, r1 ++ r2, by rw [e2, e1, List.append_assoc]⟩
theorem Gr.at {G G1 : Hp} {φ φ1 : List Addr} (a : Gr G φ G1 φ1) {n : Nat} {x : Addr} (h : φ[n]? = some x) : φ1[n]? = some x := by
  obtain ⟨_, r, e⟩ := a
  obtain ⟨hl, _⟩ := List.getElem?_eq_some_iff.mp h
  rw [e, List.getElem?_append_left hl]
  exact h
theorem RD.up {K : PySem.W.Frag} {G G1 : Hp} {φ φ1 : List Addr} (a : Gr G φ G1 φ1) : ∀ {d : D} {v : V}, RD K G φ v d → RD K G1 φ1 v d
  | .p d, _, h => Rp.up a.g d h
  | .ref n, _, h => by
    obtain ⟨x, h1, h2⟩ := h
    exact ⟨x, a.at h1, h2⟩
theorem RDs.up {K : PySem.W.Frag} {G G1 : Hp} {φ φ1 : List Addr} (a : Gr G φ G1 φ1) {ds : List D} {vs : List V} (h : RDs K G φ vs ds) : RDs K G1 φ1 vs ds :=
  Paired.mapP h fun _ _ q => RD.up a q

/-- what is fixed through a def's body: the classes' places, the rigid heap, the entry's frozen heap, the exception that is handled (its slot, itself, its class, its dict), the wish -/
structure DC where
  cx : Nat → Addr
  R : Hp
  G0 : Hp
  hx : Option (Nat × Addr × Value × Option Addr)
  W : WX

/-- an exception's class and fields -/
def XRp (K : PySem.W.Frag) (cx : Nat → Addr) (G : Hp) (cls : Value) (d : Option Addr) (c : Nat) (fs : Fields) : Prop :=
  cls = Value.ref (cx c) ∧ ((d = none ∧ fs = []) ∨ ∃ a vs, d = some a ∧ G a = some (.xd vs) ∧ Paired (fun (p : Str × V) (q : Str × PD) => p.1 = q.1 ∧ Rp K G p.2 q.2) vs fs)
theorem XRp.up {K : PySem.W.Frag} {cx : Nat → Addr} {G G' : Hp} {cls : Value} {d : Option Addr} {c : Nat} {fs : Fields} (s : Same G G') (h : XRp K cx G cls d c fs) : XRp K cx G' cls d c fs := by
  obtain ⟨e, h⟩ := h
  refine ⟨e, ?_⟩
  rcases h with h | ⟨a, vs, h1, h2, h3⟩
  · exact .inl h
  · exact .inr ⟨a, vs, h1, s _ _ h2, Paired.mapP h3 fun _ _ q => ⟨q.1, Rp.up s _ q.2⟩⟩

def CellOk (K : PySem.W.Frag) (c : DC) (G : Hp) (φ : List Addr) (H : Hp) (a : Addr) : Cell → Prop
  | .lst l => G a = none ∧ ∃ vs, H a = some (.lst vs) ∧ RDs K G φ vs l
  | .froz d => Rp K G (.ref a) d

structure Sim (K : PySem.W.Frag) (c : DC) (G : Hp) (φ : List Addr) (s : DS) (σ : St) (H : Hp) : Prop where
  gh : Same G H
  rh : Same c.R H
  fr : ∀ a, G a ≠ none → c.R a ≠ none → c.G0 a ≠ none
  len : s.env.length = σ.length
  env : ∀ (i : Nat) (d : D), s.env[i]? = some (some d) → ∃ v, σ[i]? = some (some v) ∧ RD K G φ v d
  clen : s.cells.length = φ.length
  cell : ∀ (n : Nat) (a : Addr) (x : Cell), φ[n]? = some a → s.cells[n]? = some x → CellOk K c G φ H a x
  cR : ∀ a ∈ φ, c.R a = none
  cH : ∀ a ∈ φ, H a ≠ none
  nd : φ.Nodup
  ex : ∀ e fs, s.ex = some (e, fs) → ∃ i a cls d, c.hx = some (i, a, cls, d) ∧ σ[i]? = some (some (.ref a)) ∧ XRp K c.cx G cls d e fs

/-- an outcome -/
inductive ER (α : Type) where
  | ok (a : α) (s : DS)
  | exc (c : Nat) (fs : Fields) (s : DS)
  | no

def Po {α β : Type} (K : PySem.W.Frag) (c : DC) (rel : Hp → List Addr → β → α → Prop) (o : ER α) (G : Hp) (φ : List Addr) (σ : St) (Q : β → Hp → Prop) : Prop :=
  match o with
  | .ok d s' => ∀ v G' φ' H', Gr G φ G' φ' → Sim K c G' φ' s' σ H' → rel G' φ' v d → Q v H'
  | .exc e fs s' => ∀ cls dd G' φ' H', Gr G φ G' φ' → Sim K c G' φ' s' σ H' → XRp K c.cx G' cls dd e fs → c.W cls dd σ H'
  | .no => False
def rd {α β : Type} (K : PySem.W.Frag) (c : DC) (rel : Hp → List Addr → β → α → Prop) (m : DS → ER α) : St → Hp → (β → Hp → Prop) → Prop :=
  fun σ H Q => ∃ G φ s, Sim K c G φ s σ H ∧ Po K c rel (m s) G φ σ Q

def mb {α γ : Type} (m : DS → ER α) (k : α → DS → ER γ) : DS → ER γ := fun s => match m s with
  | .ok a s' => k a s'
  | .exc e fs s' => .exc e fs s'
  | .no => .no

section
variable {K : PySem.W.Frag} {c : DC} {α β γ δ : Type} {rel : Hp → List Addr → β → α → Prop} {rel2 : Hp → List Addr → δ → γ → Prop} {G G1 : Hp} {φ φ1 : List Addr} {σ : St} {H : Hp} {s : DS}
theorem Po.up {o : ER α} {Q : β → Hp → Prop} (a : Gr G φ G1 φ1) (h : Po K c rel o G φ σ Q) : Po K c rel o G1 φ1 σ Q := by
  cases o with
  | ok d s' => exact fun v G' φ' H' g => h v G' φ' H' (a.trans g)
  | exc e fs s' => exact fun cls dd G' φ' H' g => h cls dd G' φ' H' (a.trans g)
  | no => exact h
theorem Po.mono {o : ER α} {Q Q' : β → Hp → Prop} (h : Po K c rel o G φ σ Q) (q : ∀ v H', Q v H' → Q' v H') : Po K c rel o G φ σ Q' := by
  cases o with
  | ok d s' => exact fun v G' φ' H' g sm r => q v H' (h v G' φ' H' g sm r)
  | exc e fs s' => exact h
  | no => exact h
/-- from an outcome ok -/
theorem Po.ok {d : α} {s' : DS} {v : β} {H' : Hp} {Q : β → Hp → Prop} (h : Po K c rel (.ok d s') G φ σ Q) (g : Gr G φ G1 φ1) (sm : Sim K c G1 φ1 s' σ H') (r : rel G1 φ1 v d) : Q v H' := h v G1 φ1 H' g sm r
theorem rd.mono {m : DS → ER α} {Q Q' : β → Hp → Prop} (h : rd K c rel m σ H Q) (q : ∀ v H', Q v H' → Q' v H') : rd K c rel m σ H Q' := by
  obtain ⟨G, φ, s, sm, p⟩ := h
  exact ⟨G, φ, s, sm, p.mono q⟩
/-- a first part, then what comes -/
theorem rd.bind {m : DS → ER α} {k : α → DS → ER γ} {Q : δ → Hp → Prop} (sm : Sim K c G φ s σ H) (h : Po K c rel2 (mb m k s) G φ σ Q) :
    rd K c rel m σ H (fun v H1 => ∃ G1 φ1 s1 d, Gr G φ G1 φ1 ∧ Sim K c G1 φ1 s1 σ H1 ∧ rel G1 φ1 v d ∧ Po K c rel2 (k d s1) G1 φ1 σ Q) := by
  refine ⟨G, φ, s, sm, ?_⟩
  unfold mb at h
  cases e : m s with
  | ok d s' =>
    rw [e] at h
    intro v G' φ' H' g sm' r
    exact ⟨G', φ', s', d, g, sm', r, h.up g⟩
  | exc x fs s' => rw [e] at h; exact h
  | no => rw [e] at h; exact h
/-- the last part -/
theorem rd.of {m : DS → ER α} {Q : β → Hp → Prop} (sm : Sim K c G φ s σ H) (h : Po K c rel (m s) G φ σ Q) : rd K c rel m σ H Q := ⟨G, φ, s, sm, h⟩
end

abbrev DE (X : Cx) (c : DC) (e : Expr) (m : DS → ER D) : Prop := PE X e (rd X.K c (RD X.K) m)
abbrev relB (_ : Hp) (_ : List Addr) (b b' : Bool) : Prop := b = b'
abbrev DT (X : Cx) (c : DC) (e : Expr) (m : DS → ER Bool) : Prop := PT X e (rd X.K c relB m)
abbrev DW (X : Cx) (c : DC) (e : Expr) (m : DS → ER Bool) : Prop := PW X e (rd X.K c relB m)
abbrev DA (X : Cx) (c : DC) (es : List Expr) (m : DS → ER (List D)) : Prop := PA X es (rd X.K c (RDs X.K) m)
theorem pe_imp {X : Cx} {e : Expr} {t t' : TE} (h : PE X e t) (i : ∀ σ H Q, t' σ H Q → t σ H Q) : PE X e t' := ⟨fun pins s σ H Q I q => h.run pins s σ H Q I (i _ _ _ q)⟩
theorem pt_imp {X : Cx} {e : Expr} {t t' : TT} (h : PT X e t) (i : ∀ σ H Q, t' σ H Q → t σ H Q) : PT X e t' := ⟨fun pins s σ H Q I q => h.run pins s σ H Q I (i _ _ _ q)⟩
theorem pw_imp {X : Cx} {e : Expr} {t t' : TT} (h : PW X e t) (i : ∀ σ H Q, t' σ H Q → t σ H Q) : PW X e t' := ⟨fun wh pins s σ H Q I q => h.run wh pins s σ H Q I (i _ _ _ q)⟩
theorem pa_imp {X : Cx} {es : List Expr} {t t' : TA} (h : PA X es t) (i : ∀ σ H Q, t' σ H Q → t σ H Q) : PA X es t' := ⟨fun pos pins s σ H Q I q => h.run pos pins s σ H Q I (i _ _ _ q)⟩
theorem ps_imp {X : Cx} {st : Stmt} {t t' : TS} (h : PS X st t) (i : ∀ D σ H, t' D σ H → t D σ H) : PS X st t' := ⟨fun pins s σ H D I q => h.run pins s σ H D I (i _ _ _ q)⟩
theorem pss_imp {X : Cx} {st : List Stmt} {t t' : TS} (h : PSs X st t) (i : ∀ D σ H, t' D σ H → t D σ H) : PSs X st t' := ⟨fun pins s σ H D I q => h.run pins s σ H D I (i _ _ _ q)⟩

section
variable {K : PySem.W.Frag} {c : DC} {G : Hp} {φ : List Addr} {σ : St} {H : Hp} {s : DS}
theorem Sim.free_of (S : Sim K c G φ s σ H) {p : Addr} (h : H p = none) : G p = none ∧ c.R p = none ∧ p ∉ φ := by
  refine ⟨?_, ?_, fun hp => S.cH p hp h⟩
  · cases q : G p with
    | none => rfl
    | some o => rw [S.gh p o q] at h; cases h
  · cases q : c.R p with
    | none => rfl
    | some o => rw [S.rh p o q] at h; cases h
theorem same_upd {H : Hp} {p : Addr} {o : HO} (h : H p = none) : Same H (upd H p o) := fun b u e => by
  rw [upd_ne (ne_of_none e h)]
  exact e
/-- a new frozen object -/
theorem Sim.lay (S : Sim K c G φ s σ H) {p : Addr} {o : HO} (h : H p = none) : Sim K c (upd G p o) φ s σ (upd H p o) ∧ Gr G φ (upd G p o) φ := by
  obtain ⟨hG, hR, hφ⟩ := S.free_of h
  have gg : Gr G φ (upd G p o) φ := ⟨same_upd hG, [], by simp⟩
  refine ⟨⟨fun b u e => ?_, fun b u e => ?_, fun a ha hr => ?_, S.len, fun i d e => ?_, S.clen, fun n a x e1 e2 => ?_, S.cR, fun a ha => ?_, S.nd, fun e fs q => ?_⟩, gg⟩
  · by_cases hb : b = p
    · subst hb; rw [upd_same] at e ⊢; exact e
    · rw [upd_ne hb] at e ⊢; exact S.gh b u e
  · rw [upd_ne (ne_of_none e hR)]; exact S.rh b u e
  · by_cases hb : a = p
    · subst hb; exact absurd hR hr
    · rw [upd_ne hb] at ha; exact S.fr a ha hr
  · obtain ⟨v, e1, r⟩ := S.env i d e
    exact ⟨v, e1, r.up gg⟩
  · have ha : a ∈ φ := List.mem_of_getElem? e1
    have hne : a ≠ p := fun z => hφ (z ▸ ha)
    have h0 := S.cell n a x e1 e2
    cases x with
    | lst l =>
      obtain ⟨g0, vs, h1, r⟩ := h0
      exact ⟨by rw [upd_ne hne]; exact g0, vs, by rw [upd_ne hne]; exact h1, RDs.up gg r⟩
    | froz d => exact Rp.up gg.g d h0
  · rw [upd_ne (show a ≠ p from fun z => hφ (z ▸ ha))]; exact S.cH a ha
  · obtain ⟨i, a, cls, d, h1, h2, h3⟩ := S.ex e fs q
    exact ⟨i, a, cls, d, h1, h2, h3.up gg.g⟩
/-- a new cell -/
theorem Sim.newCell (S : Sim K c G φ s σ H) {p : Addr} {vs : List V} {l : List D} (h : H p = none) (r : RDs K G φ vs l) :
    Sim K c G (φ ++ [p]) { s with cells := s.cells ++ [.lst l] } σ (upd H p (.lst vs)) ∧ Gr G φ G (φ ++ [p]) := by
  obtain ⟨hG, hR, hφ⟩ := S.free_of h
  have gg : Gr G φ G (φ ++ [p]) := ⟨Same.refl _, [p], rfl⟩
  refine ⟨⟨fun b u e => ?_, fun b u e => ?_, S.fr, S.len, fun i d e => ?_, by simp [S.clen], fun n a x e1 e2 => ?_, fun a ha => ?_, fun a ha => ?_, ?_, fun e fs q => ?_⟩, gg⟩
  · rw [upd_ne (ne_of_none e hG)]; exact S.gh b u e
  · rw [upd_ne (ne_of_none e hR)]; exact S.rh b u e
  · obtain ⟨v, e1, r⟩ := S.env i d e
    exact ⟨v, e1, r.up gg⟩
  · by_cases hn : n < φ.length
    · rw [List.getElem?_append_left hn] at e1
      have e2' : s.cells[n]? = some x := by
        have e2'' : (s.cells ++ [Cell.lst l])[n]? = some x := e2
        rw [List.getElem?_append_left (by rw [S.clen]; exact hn)] at e2''
        exact e2''
      have ha : a ∈ φ := List.mem_of_getElem? e1
      have hne : a ≠ p := fun z => hφ (z ▸ ha)
      have h0 := S.cell n a x e1 e2'
      cases x with
      | lst l' =>
        obtain ⟨g0, vs', h1, r'⟩ := h0
        exact ⟨g0, vs', by rw [upd_ne hne]; exact h1, RDs.up gg r'⟩
      | froz d => exact h0
    · have hn' : n = φ.length := by
        have := (List.getElem?_eq_some_iff.mp e1).1
        simp at this
        omega
      subst hn'
      rw [List.getElem?_append_right (Nat.le_refl _), Nat.sub_self] at e1
      have e1' : p = a := by simpa using e1
      have e2'' : (s.cells ++ [Cell.lst l])[φ.length]? = some x := e2
      rw [← S.clen, List.getElem?_append_right (Nat.le_refl _), Nat.sub_self] at e2''
      have e2' : Cell.lst l = x := by simpa using e2''
      subst e1' e2'
      exact ⟨hG, vs, upd_same, RDs.up gg r⟩
  · rcases List.mem_append.mp ha with ha | ha
    · exact S.cR a ha
    · have : a = p := by simpa using ha
      subst this; exact hR
  · by_cases hb : a = p
    · subst hb; rw [upd_same]; simp
    · rw [upd_ne hb]
      rcases List.mem_append.mp ha with ha | ha
      · exact S.cH a ha
      · exact absurd (by simpa using ha) hb
  · rw [List.nodup_append]
    refine ⟨S.nd, by simp, fun x hx y hy => ?_⟩
    have : y = p := by simpa using hy
    subst this
    exact fun z => hφ (z ▸ hx)
  · exact S.ex e fs q
/-- a cell written -/
theorem Sim.setCell (S : Sim K c G φ s σ H) {n : Nat} {p : Addr} {l l' : List D} {vs : List V} (hp : φ[n]? = some p) (hc : s.cells[n]? = some (.lst l)) (r : RDs K G φ vs l') :
    Sim K c G φ { s with cells := s.cells.set n (.lst l') } σ (upd H p (.lst vs)) := by
  have hm : p ∈ φ := List.mem_of_getElem? hp
  have hR := S.cR p hm
  obtain ⟨hG, vs0, hH, _⟩ := S.cell n p _ hp hc
  refine ⟨fun b u e => ?_, fun b u e => ?_, S.fr, S.len, S.env, by simp [S.clen], fun k a x e1 e2 => ?_, S.cR, fun a ha => ?_, S.nd, S.ex⟩
  · rw [upd_ne (ne_of_none e hG)]; exact S.gh b u e
  · rw [upd_ne (ne_of_none e hR)]; exact S.rh b u e
  · by_cases hk : k = n
    · subst hk
      rw [hp] at e1
      have e1' : p = a := Option.some.inj e1
      subst e1'
      have hl : k < s.cells.length := (List.getElem?_eq_some_iff.mp hc).1
      have e2' : (s.cells.set k (.lst l'))[k]? = some x := e2
      rw [List.getElem?_set_self hl] at e2'
      have e3 : Cell.lst l' = x := Option.some.inj e2'
      subst e3
      exact ⟨hG, vs, upd_same, r⟩
    · have e2' : (s.cells.set n (.lst l'))[k]? = some x := e2
      rw [List.getElem?_set_ne (Ne.symm hk)] at e2'
      have hne : a ≠ p := fun z => by
        subst z
        obtain ⟨h1, e1'⟩ := List.getElem?_eq_some_iff.mp e1
        obtain ⟨h2, e2''⟩ := List.getElem?_eq_some_iff.mp hp
        exact hk ((List.getElem_inj S.nd).mp (e1'.trans e2''.symm))
      have h0 := S.cell k a x e1 e2'
      cases x with
      | lst l2 =>
        obtain ⟨g0, vs', h1, r'⟩ := h0
        exact ⟨g0, vs', by rw [upd_ne hne]; exact h1, r'⟩
      | froz d => exact h0
  · by_cases hb : a = p
    · subst hb; rw [upd_same]; simp
    · rw [upd_ne hb]; exact S.cH a ha
/-- the frame's slot stored -/
theorem Sim.store (S : Sim K c G φ s σ H) {i : Nat} {v : V} {d : D} (r : RD K G φ v d) (hx : ∀ j a cls dd, c.hx = some (j, a, cls, dd) → j ≠ i) : Sim K c G φ { s with env := s.env.set i (some d) } (σ.set i (some v)) H := by
  refine ⟨S.gh, S.rh, S.fr, by simp [S.len], fun j e h => ?_, S.clen, S.cell, S.cR, S.cH, S.nd, fun e fs q => ?_⟩
  · have h' : (s.env.set i (some d))[j]? = some (some e) := h
    by_cases hj : j = i
    · subst hj
      have hl : j < s.env.length := by
        have := (List.getElem?_eq_some_iff.mp h').1
        simpa using this
      rw [List.getElem?_set_self hl] at h'
      have e' : d = e := Option.some.inj (Option.some.inj h')
      subst e'
      exact ⟨v, List.getElem?_set_self (by rw [← S.len]; exact hl), r⟩
    · rw [List.getElem?_set_ne (Ne.symm hj)] at h'
      obtain ⟨u, e1, r1⟩ := S.env j e h'
      exact ⟨u, by rw [List.getElem?_set_ne (Ne.symm hj)]; exact e1, r1⟩
  · obtain ⟨j, a, cls, dd, h1, h2, h3⟩ := S.ex e fs q
    exact ⟨j, a, cls, dd, h1, by rw [List.getElem?_set_ne (Ne.symm (hx _ _ _ _ h1))]; exact h2, h3⟩
/-- a slot forgotten on both sides -/
theorem Sim.forget (S : Sim K c G φ s σ H) {i : Nat} (hx : ∀ j a cls dd, c.hx = some (j, a, cls, dd) → j ≠ i) : Sim K c G φ { s with env := s.env.set i none } (σ.set i none) H := by
  refine ⟨S.gh, S.rh, S.fr, by simp [S.len], fun j e h => ?_, S.clen, S.cell, S.cR, S.cH, S.nd, fun e fs q => ?_⟩
  · have h' : (s.env.set i none)[j]? = some (some e) := h
    by_cases hj : j = i
    · subst hj
      have hl : j < s.env.length := by
        have := (List.getElem?_eq_some_iff.mp h').1
        simpa using this
      rw [List.getElem?_set_self hl] at h'
      cases Option.some.inj h'
    · rw [List.getElem?_set_ne (Ne.symm hj)] at h'
      obtain ⟨u, e1, r1⟩ := S.env j e h'
      exact ⟨u, by rw [List.getElem?_set_ne (Ne.symm hj)]; exact e1, r1⟩
  · obtain ⟨j, a, cls, dd, h1, h2, h3⟩ := S.ex e fs q
    exact ⟨j, a, cls, dd, h1, by rw [List.getElem?_set_ne (Ne.symm (hx _ _ _ _ h1))]; exact h2, h3⟩
end
end DL
namespace DL
open PySem PySem.Spec L2

def listOf (s : DS) : D → Option (List D)
  | .p (.lst l) => some (l.map .p)
  | .p _ => none
  | .ref n => match s.cells[n]? with
    | some (.lst l) => some l
    | some (.froz (.lst l)) => some (l.map .p)
    | _ => none
def tupOf : D → Option (List PD)
  | .p (.tup l) => some l
  | _ => none
def deepVW (f : DS → D → Option PD) (s : DS) : List D → Option (List PD)
  | [] => some []
  | d :: ds => (f s d).bind fun x => (deepVW f s ds).map fun xs => x :: xs
def deepV : Nat → DS → D → Option PD
  | 0 => fun _ d => match d with
    | .p d => some d
    | .ref _ => none
  | k + 1 => fun s d => match d with
    | .p d => some d
    | .ref n => match s.cells[n]? with
      | some (.lst l) => (deepVW (deepV k) s l).map .lst
      | some (.froz d) => some d
      | none => none
abbrev deepVs (k : Nat) := deepVW (deepV k)
def frzW (f : DS → D → Option (PD × DS)) : DS → List D → Option (List PD × DS)
  | s, [] => some ([], s)
  | s, d :: ds => match f s d with
    | some (x, s') => match frzW f s' ds with
      | some (xs, s'') => some (x :: xs, s'')
      | none => none
    | none => none
def frz : Nat → DS → D → Option (PD × DS)
  | 0 => fun s d => match d with
    | .p d => some (d, s)
    | .ref _ => none
  | k + 1 => fun s d => match d with
    | .p d => some (d, s)
    | .ref n => match s.cells[n]? with
      | some (.lst l) => match frzW (frz k) s l with
        | some (ds, s') => match s'.cells[n]? with
          | some (.lst _) => some (.lst ds, { s' with cells := s'.cells.set n (.froz (.lst ds)) })
          | _ => none
        | none => none
      | some (.froz d) => some (d, s)
      | none => none
abbrev frzs (k : Nat) := frzW (frz k)

section
variable {K : PySem.W.Frag} {c : DC} {G : Hp} {φ : List Addr} {σ : St} {H : Hp} {s : DS}
theorem paired_map {R : V → D → Prop} {R' : V → PD → Prop} (h : ∀ v d, R' v d → R v (.p d)) : ∀ {vs : List V} {ds : List PD}, Paired R' vs ds → Paired R vs (ds.map D.p)
  | _, _, .nil => .nil
  | _, _, .cons a b => .cons (h _ _ a) (paired_map h b)
theorem listOf_ok (S : Sim K c G φ s σ H) {v : V} {d : D} {l : List D} (r : RD K G φ v d) (e : listOf s d = some l) : ∃ a xs, v = .ref a ∧ SqL K H a xs ∧ RDs K G φ xs l := by
  have go : ∀ {a : Addr} {ds : List PD}, Rp K G (.ref a) (.lst ds) → ∃ xs, SqL K H a xs ∧ RDs K G φ xs (ds.map D.p) := fun {a ds} r => by
    cases r with
    | lst q p => exact ⟨_, S.gh.seq q, paired_map (fun _ _ z => z) p⟩
  cases d with
  | p d =>
    have r' : Rp K G v d := r
    cases r' with
    | lst q p =>
      have e' : l = _ := (Option.some.inj e).symm
      subst e'
      exact ⟨_, _, rfl, S.gh.seq q, paired_map (fun _ _ z => z) p⟩
    | _ => cases e
  | ref n =>
    obtain ⟨a, h1, h2⟩ := r
    subst h2
    unfold listOf at e
    dsimp only at e
    cases q : s.cells[n]? with
    | none => rw [q] at e; cases e
    | some x =>
      rw [q] at e
      have ok := S.cell n a x h1 q
      cases x with
      | lst l' =>
        have e' : l' = l := Option.some.inj e
        subst e'
        obtain ⟨_, vs, hH, r⟩ := ok
        exact ⟨a, vs, rfl, SqL.of hH, r⟩
      | froz d =>
        cases d with
        | lst ds =>
          have e' : ds.map D.p = l := Option.some.inj e
          subst e'
          obtain ⟨xs, h1, h2⟩ := go ok
          exact ⟨a, xs, rfl, h1, h2⟩
        | _ => cases e
theorem tupOf_ok (S : Sim K c G φ s σ H) {v : V} {d : D} {l : List PD} (r : RD K G φ v d) (e : tupOf d = some l) : ∃ a xs, v = .ref a ∧ SqT K H a xs ∧ Paired (Rp K G) xs l := by
  cases d with
  | p d =>
    have r' : Rp K G v d := r
    cases r' with
    | tup q p =>
      have e' : l = _ := (Option.some.inj e).symm
      subst e'
      exact ⟨_, _, rfl, Same.seqT S.gh q, p⟩
    | _ => cases e
  | ref n => cases e
theorem deepVW_ok {f : DS → D → Option PD} (hf : ∀ (d : D) {v : V} {x : PD}, RD K G φ v d → f s d = some x → Rp K H v x) : ∀ (ds : List D) {vs : List V} {xs : List PD}, RDs K G φ vs ds → deepVW f s ds = some xs → Paired (Rp K H) vs xs
  | [], vs, xs, r, e => by
    cases r
    have e' : [] = xs := Option.some.inj e
    subst e'
    exact .nil
  | d :: ds, vs, xs, r, e => by
    cases r with
    | cons r1 r2 =>
      unfold deepVW at e
      obtain ⟨x, e1, e2⟩ := Option.bind_eq_some_iff.mp e
      obtain ⟨ys, e3, e4⟩ := Option.map_eq_some_iff.mp e2
      subst e4
      exact .cons (hf d r1 e1) (deepVW_ok hf ds r2 e3)
theorem deepV_ok (S : Sim K c G φ s σ H) : ∀ (k : Nat) (d : D) {v : V} {x : PD}, RD K G φ v d → deepV k s d = some x → Rp K H v x
  | 0, .p d, v, x, r, e => by
    have e' : d = x := Option.some.inj e
    subst e'
    exact Rp.up S.gh d r
  | 0, .ref n, v, x, r, e => by
    have e' : (none : Option PD) = some x := e
    cases e'
  | k + 1, .p d, v, x, r, e => by
    have e' : d = x := Option.some.inj e
    subst e'
    exact Rp.up S.gh d r
  | k + 1, .ref n, v, x, r, e => by
    obtain ⟨a, h1, h2⟩ := r
    subst h2
    unfold deepV at e
    dsimp only at e
    cases q : s.cells[n]? with
    | none => rw [q] at e; cases e
    | some y =>
      rw [q] at e
      have ok := S.cell n a y h1 q
      cases y with
      | lst l =>
        obtain ⟨_, vs, hH, r⟩ := ok
        obtain ⟨xs, e1, e2⟩ := Option.map_eq_some_iff.mp e
        subst e2
        exact .lst (SqL.of hH) (deepVW_ok (fun d {v x} r e => deepV_ok S k d r e) l r e1)
      | froz d =>
        have e' : d = x := Option.some.inj e
        subst e'
        exact Rp.up S.gh d ok
theorem deepVs_ok (S : Sim K c G φ s σ H) (k : Nat) (ds : List D) {vs : List V} {xs : List PD} (r : RDs K G φ vs ds) (e : deepVs k s ds = some xs) : Paired (Rp K H) vs xs := deepVW_ok (fun d {v x} r e => deepV_ok S k d r e) ds r e
/-- a cell becomes frozen -/
theorem Sim.freeze (S : Sim K c G φ s σ H) {n : Nat} {p : Addr} {l : List D} {vs : List V} {ds : List PD} (hp : φ[n]? = some p) (hc : s.cells[n]? = some (.lst l)) (hH : H p = some (.lst vs)) (r : Paired (Rp K G) vs ds) :
    Sim K c (upd G p (.lst vs)) φ { s with cells := s.cells.set n (.froz (.lst ds)) } σ H ∧ Gr G φ (upd G p (.lst vs)) φ ∧ Rp K (upd G p (.lst vs)) (.ref p) (.lst ds) := by
  have hm : p ∈ φ := List.mem_of_getElem? hp
  have hR := S.cR p hm
  obtain ⟨hG, _, _, _⟩ := S.cell n p _ hp hc
  have gg : Gr G φ (upd G p (.lst vs)) φ := ⟨same_upd hG, [], by simp⟩
  have rr : Rp K (upd G p (.lst vs)) (.ref p) (.lst ds) := .lst (SqL.of upd_same) (Rp.ups gg.g ds r)
  refine ⟨⟨fun b u e => ?_, S.rh, fun a ha hr => ?_, S.len, fun i d e => ?_, by simp [S.clen], fun k a x e1 e2 => ?_, S.cR, S.cH, S.nd, fun e fs q => ?_⟩, gg, rr⟩
  · by_cases hb : b = p
    · subst hb; rw [upd_same] at e; rw [hH]; exact e
    · rw [upd_ne hb] at e; exact S.gh b u e
  · by_cases hb : a = p
    · subst hb; exact absurd hR hr
    · rw [upd_ne hb] at ha; exact S.fr a ha hr
  · obtain ⟨v, e1, r⟩ := S.env i d e
    exact ⟨v, e1, r.up gg⟩
  · by_cases hk : k = n
    · subst hk
      rw [hp] at e1
      have e1' : p = a := Option.some.inj e1
      subst e1'
      have hl : k < s.cells.length := (List.getElem?_eq_some_iff.mp hc).1
      have e2' : (s.cells.set k (.froz (.lst ds)))[k]? = some x := e2
      rw [List.getElem?_set_self hl] at e2'
      have e3 : Cell.froz (.lst ds) = x := Option.some.inj e2'
      subst e3
      exact rr
    · have e2' : (s.cells.set n (.froz (.lst ds)))[k]? = some x := e2
      rw [List.getElem?_set_ne (Ne.symm hk)] at e2'
      have hne : a ≠ p := fun z => by
        subst z
        obtain ⟨h1, e1'⟩ := List.getElem?_eq_some_iff.mp e1
        obtain ⟨h2, e2''⟩ := List.getElem?_eq_some_iff.mp hp
        exact hk ((List.getElem_inj S.nd).mp (e1'.trans e2''.symm))
      have h0 := S.cell k a x e1 e2'
      cases x with
      | lst l2 =>
        obtain ⟨g0, vs', h1, r'⟩ := h0
        exact ⟨by rw [upd_ne hne]; exact g0, vs', h1, RDs.up gg r'⟩
      | froz d => exact Rp.up gg.g d h0
  · obtain ⟨i, a, cls, d, h1, h2, h3⟩ := S.ex e fs q
    exact ⟨i, a, cls, d, h1, h2, h3.up gg.g⟩
end
section
variable {K : PySem.W.Frag} {c : DC} {φ : List Addr} {σ : St} {H : Hp}
theorem frzW_ok {f : DS → D → Option (PD × DS)} (hf : ∀ (d : D) {G : Hp} {s s' : DS} {x : PD}, Sim K c G φ s σ H → f s d = some (x, s') → ∃ G', Gr G φ G' φ ∧ Sim K c G' φ s' σ H ∧ ∀ v, RD K G φ v d → Rp K G' v x) :
    ∀ (ds : List D) {G : Hp} {s s' : DS} {xs : List PD}, Sim K c G φ s σ H → frzW f s ds = some (xs, s') → ∃ G', Gr G φ G' φ ∧ Sim K c G' φ s' σ H ∧ ∀ vs, RDs K G φ vs ds → Paired (Rp K G') vs xs
  | [], G, s, s', xs, S, e => by
    have e' : ([], s) = (xs, s') := Option.some.inj e
    cases e'
    exact ⟨G, Gr.refl, S, fun vs r => by cases r; exact .nil⟩
  | d :: ds, G, s, s', xs, S, e => by
    unfold frzW at e
    cases q : f s d with
    | none => rw [q] at e; cases e
    | some z =>
      obtain ⟨x, s1⟩ := z
      rw [q] at e
      dsimp only at e
      obtain ⟨G1, g1, S1, h1⟩ := hf d S q
      cases q2 : frzW f s1 ds with
      | none => rw [q2] at e; cases e
      | some z2 =>
        obtain ⟨ys, s2⟩ := z2
        rw [q2] at e
        cases (Option.some.inj e)
        obtain ⟨G2, g2, S2, h2⟩ := frzW_ok hf ds S1 q2
        refine ⟨G2, g1.trans g2, S2, fun vs r => ?_⟩
        cases r with
        | cons r1 r2 => exact .cons (Rp.up g2.g x (h1 _ r1)) (h2 _ (RDs.up g1 r2))
theorem frz_ok : ∀ (k : Nat) (d : D) {G : Hp} {s s' : DS} {x : PD}, Sim K c G φ s σ H → frz k s d = some (x, s') → ∃ G', Gr G φ G' φ ∧ Sim K c G' φ s' σ H ∧ ∀ v, RD K G φ v d → Rp K G' v x
  | 0, .p d, G, s, s', x, S, e => by
    cases (show (d, s) = (x, s') from Option.some.inj e)
    exact ⟨G, Gr.refl, S, fun v r => r⟩
  | 0, .ref n, G, s, s', x, S, e => by
    have e' : (none : Option (PD × DS)) = some (x, s') := e
    cases e'
  | k + 1, .p d, G, s, s', x, S, e => by
    cases (show (d, s) = (x, s') from Option.some.inj e)
    exact ⟨G, Gr.refl, S, fun v r => r⟩
  | k + 1, .ref n, G, s, s', x, S, e => by
    unfold frz at e
    dsimp only at e
    cases q : s.cells[n]? with
    | none => rw [q] at e; cases e
    | some y =>
      rw [q] at e
      have hn : n < φ.length := by rw [← S.clen]; exact (List.getElem?_eq_some_iff.mp q).1
      have hp : φ[n]? = some φ[n] := List.getElem?_eq_getElem hn
      have ok := S.cell n _ y hp q
      cases y with
      | lst l =>
        dsimp only at e
        obtain ⟨_, vs, hH, r⟩ := ok
        cases q2 : frzW (frz k) s l with
        | none => rw [q2] at e; cases e
        | some z =>
          obtain ⟨ds, s1⟩ := z
          rw [q2] at e
          dsimp only at e
          obtain ⟨G1, g1, S1, h1⟩ := frzW_ok (fun d {G s s' x} S e => frz_ok k d S e) l S q2
          cases q3 : s1.cells[n]? with
          | none => rw [q3] at e; cases e
          | some y2 =>
            rw [q3] at e
            cases y2 with
            | froz d => cases e
            | lst l2 =>
              cases (Option.some.inj e)
              obtain ⟨S2, g2, r2⟩ := S1.freeze hp q3 hH (h1 vs r)
              refine ⟨_, g1.trans g2, S2, fun v rv => ?_⟩
              obtain ⟨a, ha, hv⟩ := rv
              rw [hp] at ha
              cases ha
              subst hv
              exact r2
      | froz d =>
        cases (Option.some.inj e)
        refine ⟨G, Gr.refl, S, fun v rv => ?_⟩
        obtain ⟨a, ha, hv⟩ := rv
        rw [hp] at ha
        cases ha
        subst hv
        exact ok
theorem frzs_ok (k : Nat) (ds : List D) {G : Hp} {s s' : DS} {xs : List PD} (S : Sim K c G φ s σ H) (e : frzs k s ds = some (xs, s')) : ∃ G', Gr G φ G' φ ∧ Sim K c G' φ s' σ H ∧ ∀ vs, RDs K G φ vs ds → Paired (Rp K G') vs xs :=
  frzW_ok (fun d {G s s' x} S e => frz_ok k d S e) ds S e
end

abbrev fuel : Nat := 6
abbrev line : Nat := 16777216

section
variable {X : Cx} {c : DC} {pos : Pos}
def mVar (i : Nat) : DS → ER D := fun s => match s.env[i]? with
  | some (some d) => .ok d s
  | _ => .no
def mC (d : PD) : DS → ER D := fun s => .ok (.p d) s
theorem dv (i : Nat) {x : Str} (hN : X.N[i]? = some x := by rfl) (hv : Vis X.env.scope x := by first | exact Or.inl rfl | exact Or.inr (Or.inl rfl) | exact Or.inr (Or.inr rfl)) (hd : (x == ("__debug__" : Str)) = false := by decide)
    (hcd : (x == ("__classdict__" : Str)) = false := by decide) : DE X c (.Name x pos) (mVar i) := pe_imp (pe_var hN hv hd hcd) fun σ H Q h => by
  obtain ⟨G, φ, s, S, p⟩ := h
  unfold mVar at p
  cases q : s.env[i]? with
  | none => rw [q] at p; exact p.elim
  | some o =>
    rw [q] at p
    cases o with
    | none => exact p.elim
    | some d =>
      obtain ⟨v, e, r⟩ := S.env i d q
      exact ⟨v, e, p.ok Gr.refl S r⟩
theorem rd_const {v : V} {d : PD} (r : ∀ G, Rp X.K G v d) : ∀ σ H Q, rd X.K c (RD X.K) (mC d) σ H Q → tC v σ H Q := fun σ H Q h => by
  obtain ⟨G, φ, s, S, p⟩ := h
  exact Po.ok p Gr.refl S (r G)
theorem dc_int {i : Int} {j} : DE X c (.Constant (.int i) j pos) (mC (.int i)) := pe_imp pe_int (rd_const fun _ => .int i)
theorem dc_bl {b : Bool} {j} : DE X c (.Constant (.bool b) j pos) (mC (.bl b)) := pe_imp pe_bl (rd_const fun _ => .bl b)
theorem dc_non {j} : DE X c (.Constant .none j pos) (mC .non) := pe_imp pe_non (rd_const fun _ => .non)
theorem dc_str {x : Str} {j} : DE X c (.Constant (.str x) j pos) (mC (.str x)) := pe_imp pe_str (rd_const fun _ => .str x)
theorem dglob {x : Str} {v : V} {u : Value} {d : PD} (hg : Gl X x) (hm : X.mg x = some u) (r : RelV v u) (rp : ∀ G, Rp X.K G v d) (hd : (x == ("__debug__" : Str)) = false := by decide) : DE X c (.Name x pos) (mC d) :=
  pe_imp (pe_glob hg hm r hd) (rd_const rp)
end

section
variable {X : Cx} {c : DC} {pos : Pos} {e : Expr} {es : List Expr} {m : DS → ER D} {n : DS → ER (List D)}
def mNil : DS → ER (List D) := fun s => .ok [] s
def mCons (m : DS → ER D) (n : DS → ER (List D)) : DS → ER (List D) := mb m fun d => mb n fun ds s => .ok (d :: ds) s
theorem da_nil : DA X c [] mNil := pa_imp pa_nil fun σ H Q h => by
  obtain ⟨G, φ, s, S, p⟩ := h
  exact Po.ok p Gr.refl S .nil
theorem da_cons (ha : DE X c e m) (hr : DA X c es n) (hs : starEach (e :: es) X.env = (false, eval e X.env) :: starEach es X.env := by rfl) : DA X c (e :: es) (mCons m n) := pa_imp (pa_cons ha hr hs) fun σ H Q h => by
  obtain ⟨G, φ, s, S, p⟩ := h
  refine (rd.bind (rel := RD X.K) S p).mono fun v H1 ⟨G1, φ1, s1, d, g1, S1, r1, p1⟩ => ?_
  refine (rd.bind (rel := RDs X.K) S1 p1).mono fun vs H2 ⟨G2, φ2, s2, ds, g2, S2, r2, p2⟩ => ?_
  exact Po.ok p2 Gr.refl S2 (.cons (r1.up g2) r2)
/-- a tuple of the values, frozen -/
def fTup : List D → DS → ER D := fun ds s => match frzs fuel s ds with
  | some (xs, s') => if xs.length ≤ line then .ok (.p (.tup xs)) s' else .no
  | none => .no
def mTup (n : DS → ER (List D)) : DS → ER D := mb n fTup
theorem paired_length {α β : Type} {R : α → β → Prop} {xs : List α} {ys : List β} (h : Paired R xs ys) : xs.length = ys.length := Paired.length h
theorem line_eq : (sizeLine : Nat) = line := sizeLine_eq
theorem de_tup {x1} (h : DA X c es n) : DE X c (.Tuple es x1 pos) (mTup n) := pe_imp (pe_tup h) fun σ H Q h => by
  obtain ⟨G, φ, s, S, p⟩ := h
  refine (rd.bind (rel := RDs X.K) S p).mono fun vs H1 ⟨G1, φ1, s1, ds, g1, S1, r1, p1⟩ => ?_
  unfold fTup at p1
  cases q : frzs fuel s1 ds with
  | none => rw [q] at p1; exact p1.elim
  | some z =>
    obtain ⟨xs, s2⟩ := z
    rw [q] at p1
    dsimp only at p1
    obtain ⟨G2, g2, S2, h2⟩ := frzs_ok fuel ds S1 q
    have r2 := h2 vs r1
    split at p1
    · rename_i hl
      refine ⟨by rw [line_eq, paired_length r2]; exact hl, fun a ha => ?_⟩
      obtain ⟨S3, g3⟩ := S2.lay (o := .tup vs) ha
      exact Po.ok p1 (g2.trans g3) S3 (.tup (SqT.of upd_same) (Rp.ups g3.g xs r2))
    · exact p1.elim
/-- a list of the values: a new cell -/
def fLst : List D → DS → ER D := fun ds s => if ds.length ≤ line then .ok (.ref s.cells.length) { s with cells := s.cells ++ [.lst ds] } else .no
def mLst (n : DS → ER (List D)) : DS → ER D := mb n fLst
theorem at_last {α : Type} {l : List α} {x : α} : (l ++ [x])[l.length]? = some x := by simp
theorem lst_new {K : PySem.W.Frag} {G : Hp} {φ : List Addr} {σ : St} {H : Hp} {s : DS} {ds : List D} {vs : List V} {Q : VK} (S : Sim K c G φ s σ H) (r : RDs K G φ vs ds) (p : Po K c (RD K) (fLst ds s) G φ σ Q) :
    vs.length ≤ sizeLine ∧ ∀ a, H a = none → Q (.ref a) (upd H a (.lst vs)) := by
  unfold fLst at p
  split at p
  · rename_i hl
    refine ⟨by rw [line_eq, paired_length r]; exact hl, fun a ha => ?_⟩
    obtain ⟨S3, g3⟩ := S.newCell ha r
    exact Po.ok p g3 S3 ⟨a, by rw [S.clen]; exact at_last, rfl⟩
  · exact p.elim
theorem de_lst (h : DA X c es n) : DE X c (.List es pos) (mLst n) := pe_imp (pe_lst h) fun σ H Q h => by
  obtain ⟨G, φ, s, S, p⟩ := h
  refine (rd.bind (rel := RDs X.K) S p).mono fun vs H1 ⟨G1, φ1, s1, ds, g1, S1, r1, p1⟩ => ?_
  exact lst_new S1 r1 p1
end

/-- the D-function f keeps the reading r of a two-place operation -/
def DOp (X : Cx) (c : DC) (r : R2) (f : D → D → DS → ER D) : Prop :=
  ∀ (G : Hp) (φ : List Addr) (s : DS) (σ : St) (H : Hp) (x y : V) (d e : D) (Q : VK), Sim X.K c G φ s σ H → RD X.K G φ x d → RD X.K G φ y e → Po X.K c (RD X.K) (f d e s) G φ σ Q → r x y H Q
def DUn (X : Cx) (c : DC) (r : V → Hp → VK → Prop) (f : D → DS → ER D) : Prop :=
  ∀ (G : Hp) (φ : List Addr) (s : DS) (σ : St) (H : Hp) (x : V) (d : D) (Q : VK), Sim X.K c G φ s σ H → RD X.K G φ x d → Po X.K c (RD X.K) (f d s) G φ σ Q → r x H Q
def DCall (X : Cx) (c : DC) (r : List V → Hp → VK → Prop) (f : List D → DS → ER D) : Prop :=
  ∀ (G : Hp) (φ : List Addr) (s : DS) (σ : St) (H : Hp) (xs : List V) (ds : List D) (Q : VK), Sim X.K c G φ s σ H → RDs X.K G φ xs ds → Po X.K c (RD X.K) (f ds s) G φ σ Q → r xs H Q
def DMt (X : Cx) (c : DC) (r : V → List V → Hp → VK → Prop) (f : D → List D → DS → ER D) : Prop :=
  ∀ (G : Hp) (φ : List Addr) (s : DS) (σ : St) (H : Hp) (x : V) (xs : List V) (d : D) (ds : List D) (Q : VK), Sim X.K c G φ s σ H → RD X.K G φ x d → RDs X.K G φ xs ds → Po X.K c (RD X.K) (f d ds s) G φ σ Q → r x xs H Q
def mBin (f : D → D → DS → ER D) (m n : DS → ER D) : DS → ER D := mb m fun d => mb n fun e => f d e
def mUn (f : D → DS → ER D) (m : DS → ER D) : DS → ER D := mb m f
def mCB (f : List D → DS → ER D) (m : DS → ER (List D)) : DS → ER D := mb m f
section
variable {X : Cx} {c : DC} {pos : Pos} {a b : Expr} {m n : DS → ER D} {r r' : R2} {f : D → D → DS → ER D}
theorem rd_bin (hf : DOp X c r f) : ∀ σ H Q, rd X.K c (RD X.K) (mBin f m n) σ H Q → tOp r (rd X.K c (RD X.K) m) (rd X.K c (RD X.K) n) σ H Q := fun σ H Q h => by
  obtain ⟨G, φ, s, S, p⟩ := h
  refine (rd.bind (rel := RD X.K) S p).mono fun v H1 ⟨G1, φ1, s1, d, g1, S1, r1, p1⟩ => ?_
  refine (rd.bind (rel := RD X.K) S1 p1).mono fun u H2 ⟨G2, φ2, s2, e, g2, S2, r2, p2⟩ => ?_
  exact hf G2 φ2 s2 σ H2 v u d e Q S2 (r1.up g2) r2 p2
theorem de_bin {op : Operator} (ho : OpR X (binaryOp op) r) (hf : DOp X c r f) (ha : DE X c a m) (hb : DE X c b n) : DE X c (.BinOp a op b pos) (mBin f m n) := pe_imp (pe_op ho ha hb) (rd_bin hf)
theorem de_un {op : UnaryOp} {r : V → Hp → VK → Prop} {f : D → DS → ER D} (ho : UnR X (unaryOp op) r) (hf : DUn X c r f) (ha : DE X c a m) : DE X c (.UnaryOp op a pos) (mUn f m) := pe_imp (pe_un ho ha) fun σ H Q h => by
  obtain ⟨G, φ, s, S, p⟩ := h
  refine (rd.bind (rel := RD X.K) S p).mono fun v H1 ⟨G1, φ1, s1, d, g1, S1, r1, p1⟩ => ?_
  exact hf G1 φ1 s1 σ H1 v d Q S1 r1 p1
theorem de_cmp {op : CmpOp} (ho : OpR X (compareOp op) r) (hf : DOp X c r f) (ha : DE X c a m) (hb : DE X c b n) (hm : behindInMarks op b = false) : DE X c (.Compare a [op] [b] pos) (mBin f m n) := pe_imp (pe_cmpR ho ha hb hm) (rd_bin hf)
/-- a truth value as a test -/
def mTest (m : DS → ER D) : DS → ER Bool := mb m fun d s => match d with
  | .p (.bl k) => .ok k s
  | _ => .no
theorem rp_bl {K : PySem.W.Frag} {G : Hp} {v : V} {k : Bool} (h : Rp K G v (.bl k)) : v = .bl k := by cases h; rfl
theorem rp_int {K : PySem.W.Frag} {G : Hp} {v : V} {i : Int} (h : Rp K G v (.int i)) : v = .int i := by cases h; rfl
theorem rp_str {K : PySem.W.Frag} {G : Hp} {v : V} {i : Str} (h : Rp K G v (.str i)) : v = .str i := by cases h; rfl
theorem rp_non {K : PySem.W.Frag} {G : Hp} {v : V} (h : Rp K G v .non) : v = .non := by cases h; rfl
theorem rd_test {t : TE} (ht : ∀ σ H Q, rd X.K c (RD X.K) m σ H Q → t σ H Q) : ∀ σ H Q, rd X.K c relB (mTest m) σ H Q → t σ H fun x H1 => ∃ k, x = .bl k ∧ Q k H1 := fun σ H Q h => by
  obtain ⟨G, φ, s, S, p⟩ := h
  refine ht σ H _ ((rd.bind (rel := RD X.K) S p).mono fun v H1 ⟨G1, φ1, s1, d, g1, S1, r1, p1⟩ => ?_)
  cases d with
  | ref n => exact p1.elim
  | p d =>
    cases d with
    | bl k => exact ⟨k, rp_bl r1, Po.ok p1 Gr.refl S1 rfl⟩
    | _ => exact p1.elim
theorem dt_cmp {op : CmpOp} (ho : OpR X (compareOp op) r) (hf : DOp X c r f) (ha : DE X c a m) (hb : DE X c b n) (hm : behindInMarks op b = false) : DT X c (.Compare a [op] [b] pos) (mTest (mBin f m n)) :=
  pt_imp (pt_cmpR ho ha hb hm) (rd_test (rd_bin hf))
/-- a chain of two comparisons -/
def mChain (f f' : D → D → DS → ER D) (m n o : DS → ER D) : DS → ER D := mb m fun d => mb n fun e => mb (f d e) fun z s => match z with
  | .p (.bl true) => (mb o fun g => f' e g) s
  | .p (.bl false) => .ok (.p (.bl false)) s
  | _ => .no
theorem rd_chain {cc : Expr} {o : DS → ER D} {f' : D → D → DS → ER D} (hf : DOp X c r f) (hf' : DOp X c r' f') : ∀ σ H Q, rd X.K c (RD X.K) (mChain f f' m n o) σ H Q → tChain r r' (rd X.K c (RD X.K) m) (rd X.K c (RD X.K) n) (rd X.K c (RD X.K) o) σ H Q := fun σ H Q h => by
  obtain ⟨G, φ, s, S, p⟩ := h
  refine (rd.bind (rel := RD X.K) S p).mono fun v H1 ⟨G1, φ1, s1, d, g1, S1, r1, p1⟩ => ?_
  refine (rd.bind (rel := RD X.K) S1 p1).mono fun u H2 ⟨G2, φ2, s2, e, g2, S2, r2, p2⟩ => ?_
  obtain ⟨G2', φ2', s2', S2', p2'⟩ := rd.bind (rel := RD X.K) S2 p2
  refine hf G2 φ2 s2 σ H2 v u d e _ S2 (r1.up g2) r2 ?_
  -- the first comparison
  have step := rd.bind (rel := RD X.K) (m := f d e) S2 p2
  have p3 : Po X.K c (RD X.K) (f d e s2) G2 φ2 σ (fun z H3 => ∃ G3 φ3 s3 y, Gr G2 φ2 G3 φ3 ∧ Sim X.K c G3 φ3 s3 σ H3 ∧ RD X.K G3 φ3 z y ∧ Po X.K c (RD X.K) ((match y with
    | .p (.bl true) => (mb o fun g => f' e g) s3
    | .p (.bl false) => .ok (.p (.bl false)) s3
    | _ => .no : ER D)) G3 φ3 σ Q) := by
    unfold mb at p2
    cases q : f d e s2 with
    | ok y s3 =>
      rw [q] at p2
      intro z G3 φ3 H3 g3 S3 r3
      exact ⟨G3, φ3, s3, y, g3, S3, r3, Po.up g3 p2⟩
    | exc e1 fs s3 => rw [q] at p2; exact p2
    | no => rw [q] at p2; exact p2
  refine p3.mono fun z H3 ⟨G3, φ3, s3, y, g3, S3, r3, p4⟩ => ?_
  cases y with
  | ref n => exact p4.elim
  | p y =>
    cases y with
    | bl k =>
      refine ⟨k, rp_bl r3, ?_⟩
      cases k with
      | true =>
        refine iteT ((rd.bind (rel := RD X.K) S3 p4).mono fun w H4 ⟨G4, φ4, s4, g, g4, S4, r4, p5⟩ => ?_)
        exact hf' G4 φ4 s4 σ H4 u w e g Q S4 ((r2.up g3).up g4) r4 p5
      | false => exact iteF (Po.ok p4 Gr.refl S3 (.bl false))
    | _ => exact p4.elim
theorem de_chain {op op' : CmpOp} {cc : Expr} {o : DS → ER D} {f' : D → D → DS → ER D} (ho : OpR X (compareOp op) r) (ho' : OpR X (compareOp op') r') (hf : DOp X c r f) (hf' : DOp X c r' f') (ha : DE X c a m) (hb : DE X c b n) (hc : DE X c cc o)
    (hm : lastMarks [op, op'] [b, cc] = false := by with_unfolding_all rfl) : DE X c (.Compare a [op, op'] [b, cc] pos) (mChain f f' m n o) := pe_imp (pe_chain ho ho' ha hb hc hm) (rd_chain (cc := cc) hf hf')
theorem dt_chain {op op' : CmpOp} {cc : Expr} {o : DS → ER D} {f' : D → D → DS → ER D} (ho : OpR X (compareOp op) r) (ho' : OpR X (compareOp op') r') (hf : DOp X c r f) (hf' : DOp X c r' f') (ha : DE X c a m) (hb : DE X c b n) (hc : DE X c cc o)
    (hm : lastMarks [op, op'] [b, cc] = false := by with_unfolding_all rfl) : DT X c (.Compare a [op, op'] [b, cc] pos) (mTest (mChain f f' m n o)) := pt_imp (pt_chain ho ho' ha hb hc hm) (rd_test (rd_chain (cc := cc) hf hf'))
end

section
variable {X : Cx} {c : DC} {pos : Pos} {a b : Expr} {rest : List Expr} {t u : DS → ER Bool} {m n : DS → ER D}
def mAndT (t u : DS → ER Bool) : DS → ER Bool := mb t fun k s => match k with
  | true => u s
  | false => .ok false s
def mOrT (t u : DS → ER Bool) : DS → ER Bool := mb t fun k s => match k with
  | true => .ok true s
  | false => u s
def mNotT (t : DS → ER Bool) : DS → ER Bool := mb t fun k s => .ok (!k) s
theorem dw_and1 (ha : DT X c a t) : DW X c (.BoolOp .And [a] pos) t := pw_and1 ha
theorem dw_or1 (ha : DT X c a t) : DW X c (.BoolOp .Or [a] pos) t := pw_or1 ha
theorem dw_and (ha : DT X c a t) (hb : DW X c (.BoolOp .And (b :: rest) pos) u) : DW X c (.BoolOp .And (a :: b :: rest) pos) (mAndT t u) := pw_imp (pw_and ha hb) fun σ H Q h => by
  obtain ⟨G, φ, s, S, p⟩ := h
  refine (rd.bind (rel := relB) S p).mono fun v H1 ⟨G1, φ1, s1, k, g1, S1, r1, p1⟩ => ?_
  have r1' : v = k := r1
  subst r1'
  cases v with
  | true => exact iteT (rd.of S1 p1)
  | false => exact iteF (Po.ok p1 Gr.refl S1 rfl)
theorem dw_or (ha : DT X c a t) (hb : DW X c (.BoolOp .Or (b :: rest) pos) u) : DW X c (.BoolOp .Or (a :: b :: rest) pos) (mOrT t u) := pw_imp (pw_or ha hb) fun σ H Q h => by
  obtain ⟨G, φ, s, S, p⟩ := h
  refine (rd.bind (rel := relB) S p).mono fun v H1 ⟨G1, φ1, s1, k, g1, S1, r1, p1⟩ => ?_
  have r1' : v = k := r1
  subst r1'
  cases v with
  | true => exact iteT (Po.ok p1 Gr.refl S1 rfl)
  | false => exact iteF (rd.of S1 p1)
theorem dt_bool {op} (h : DW X c (.BoolOp op (a :: rest) pos) t) : DT X c (.BoolOp op (a :: rest) pos) t := PW.pt h
theorem dt_not (ha : DT X c a t) : DT X c (.UnaryOp .Not a pos) (mNotT t) := pt_imp (pt_not ha) fun σ H Q h => by
  obtain ⟨G, φ, s, S, p⟩ := h
  refine (rd.bind (rel := relB) S p).mono fun v H1 ⟨G1, φ1, s1, k, g1, S1, r1, p1⟩ => ?_
  have r1' : v = k := r1
  subst r1'
  exact Po.ok p1 Gr.refl S1 rfl
def mAnd (m n : DS → ER D) : DS → ER D := mb m fun d s => match d with
  | .p (.bl true) => n s
  | .p (.bl false) => .ok (.p (.bl false)) s
  | _ => .no
def mOr (m n : DS → ER D) : DS → ER D := mb m fun d s => match d with
  | .p (.bl true) => .ok (.p (.bl true)) s
  | .p (.bl false) => n s
  | _ => .no
def mNot (m : DS → ER D) : DS → ER D := mb m fun d s => match d with
  | .p (.bl k) => .ok (.p (.bl (!k))) s
  | _ => .no
theorem de_one {op} (ha : DE X c a m) : DE X c (.BoolOp op [a] pos) m := pe_one ha
theorem de_and (ha : DE X c a m) (hb : DE X c (.BoolOp .And (b :: rest) pos) n) : DE X c (.BoolOp .And (a :: b :: rest) pos) (mAnd m n) := pe_imp (pe_and ha hb) fun σ H Q h => by
  obtain ⟨G, φ, s, S, p⟩ := h
  refine (rd.bind (rel := RD X.K) S p).mono fun v H1 ⟨G1, φ1, s1, d, g1, S1, r1, p1⟩ => ?_
  cases d with
  | ref n => exact p1.elim
  | p d =>
    cases d with
    | bl k =>
      refine ⟨k, rp_bl r1, ?_⟩
      cases k with
      | true => exact iteT (rd.of S1 p1)
      | false => exact iteF (Po.ok p1 Gr.refl S1 (.bl false))
    | _ => exact p1.elim
theorem de_or (ha : DE X c a m) (hb : DE X c (.BoolOp .Or (b :: rest) pos) n) : DE X c (.BoolOp .Or (a :: b :: rest) pos) (mOr m n) := pe_imp (pe_or ha hb) fun σ H Q h => by
  obtain ⟨G, φ, s, S, p⟩ := h
  refine (rd.bind (rel := RD X.K) S p).mono fun v H1 ⟨G1, φ1, s1, d, g1, S1, r1, p1⟩ => ?_
  cases d with
  | ref n => exact p1.elim
  | p d =>
    cases d with
    | bl k =>
      refine ⟨k, rp_bl r1, ?_⟩
      cases k with
      | true => exact iteT (Po.ok p1 Gr.refl S1 (.bl true))
      | false => exact iteF (rd.of S1 p1)
    | _ => exact p1.elim
theorem de_not (ha : DE X c a m) : DE X c (.UnaryOp .Not a pos) (mNot m) := pe_imp (pe_not ha) fun σ H Q h => by
  obtain ⟨G, φ, s, S, p⟩ := h
  refine (rd.bind (rel := RD X.K) S p).mono fun v H1 ⟨G1, φ1, s1, d, g1, S1, r1, p1⟩ => ?_
  cases d with
  | ref n => exact p1.elim
  | p d =>
    cases d with
    | bl k => exact ⟨k, rp_bl r1, Po.ok p1 Gr.refl S1 (.bl (!k))⟩
    | _ => exact p1.elim
def mIf (t : DS → ER Bool) (m n : DS → ER D) : DS → ER D := mb t fun k s => match k with
  | true => m s
  | false => n s
theorem de_if {e : Expr} (ht : DT X c e t) (ha : DE X c a m) (hb : DE X c b n) : DE X c (.IfExp e a b pos) (mIf t m n) := pe_imp (pe_ifExp ht ha hb) fun σ H Q h => by
  obtain ⟨G, φ, s, S, p⟩ := h
  refine (rd.bind (rel := relB) S p).mono fun v H1 ⟨G1, φ1, s1, k, g1, S1, r1, p1⟩ => ?_
  have r1' : v = k := r1
  subst r1'
  cases v with
  | true => exact iteT (rd.of S1 p1)
  | false => exact iteF (rd.of S1 p1)
/-- a value's truth -/
def truF (d : D) (s : DS) : Option Bool := match d with
  | .p .non => some false
  | .p (.bl b) => some b
  | .p (.int i) => some (i != 0)
  | .p (.str x) => if x.length ≤ line then some ((x.length : Int) != 0) else none
  | .p (.tup l) => some (!l.isEmpty)
  | .p (.lst l) => some (!l.isEmpty)
  | .p (.obj _ _ _) => none
  | .ref n => match s.cells[n]? with
    | some (.lst l) => some (!l.isEmpty)
    | some (.froz (.lst l)) => some (!l.isEmpty)
    | _ => none
def mTru (m : DS → ER D) : DS → ER Bool := mb m fun d s => match truF d s with
  | some k => .ok k s
  | none => .no
theorem paired_empty {α β : Type} {R : α → β → Prop} {xs : List α} {ys : List β} (h : Paired R xs ys) : xs.isEmpty = ys.isEmpty := by cases h <;> rfl
theorem truF_ok {K : PySem.W.Frag} {G : Hp} {φ : List Addr} {σ : St} {H : Hp} {s : DS} (S : Sim K c G φ s σ H) {v : V} {d : D} {k : Bool} (r : RD K G φ v d) (e : truF d s = some k) : TruV K v H k := by
  cases d with
  | p d =>
    have r' : Rp K G v d := r
    cases r' with
    | non => exact (Option.some.inj e).symm
    | bl b => exact (Option.some.inj e).symm
    | int i => exact (Option.some.inj e).symm
    | str x =>
      unfold truF at e
      dsimp only at e
      split at e
      · rename_i h
        exact ⟨by rw [line_eq]; exact h, (Option.some.inj e).symm⟩
      · cases e
    | tup q p =>
      refine .inr (.inl ⟨_, Same.seqT S.gh q, ?_⟩)
      rw [paired_empty p]
      exact (Option.some.inj e).symm
    | lst q p =>
      refine .inl ⟨_, S.gh.seq q, ?_⟩
      rw [paired_empty p]
      exact (Option.some.inj e).symm
    | exc _ _ _ _ => cases e
  | ref n =>
    obtain ⟨a, h1, h2⟩ := r
    subst h2
    unfold truF at e
    dsimp only at e
    cases q : s.cells[n]? with
    | none => rw [q] at e; cases e
    | some x =>
      rw [q] at e
      have ok := S.cell n a x h1 q
      cases x with
      | lst l =>
        obtain ⟨_, vs, hH, r⟩ := ok
        exact .inl ⟨vs, SqL.of hH, by rw [paired_empty r]; exact (Option.some.inj e).symm⟩
      | froz d =>
        cases d with
        | lst l =>
          have ok' : Rp K G (.ref a) (.lst l) := ok
          cases ok' with
          | lst q p => exact .inl ⟨_, S.gh.seq q, by rw [paired_empty p]; exact (Option.some.inj e).symm⟩
        | _ => cases e
theorem dt_tru (ha : DE X c a m) (he : ∀ whole, isTrue a X.env whole = (do let v ← whole; standAt a.pos; holding [v] (truthy v)) := by intro _; rfl) : DT X c a (mTru m) := pt_imp (pt_truth ha he) fun σ H Q h => by
  obtain ⟨G, φ, s, S, p⟩ := h
  refine (rd.bind (rel := RD X.K) S p).mono fun v H1 ⟨G1, φ1, s1, d, g1, S1, r1, p1⟩ => ?_
  cases q : truF d s1 with
  | none => rw [q] at p1; exact p1.elim
  | some k =>
    rw [q] at p1
    exact ⟨k, truF_ok S1 r1 q, Po.ok p1 Gr.refl S1 rfl⟩
end
end DL
namespace DL
open PySem PySem.Spec L2

mutual
def PD.py : PD → PyData
  | .non => .none
  | .bl b => .bool b
  | .int i => .int i
  | .str x => .str x
  | .tup l => .tuple (PD.pys l)
  | .lst l => .list (PD.pys l)
  | .obj _ _ _ => .none
def PD.pys : List PD → List PyData
  | [] => []
  | d :: ds => d.py :: PD.pys ds
end
mutual
/-- fit for ==: texts well formed, at most n deep, no objects -/
def PD.okq : Nat → PD → Bool
  | _, .non => true
  | _, .bl _ => true
  | _, .int _ => true
  | _, .str x => PySem.PyData.strOk x
  | 0, .tup _ => false
  | 0, .lst _ => false
  | n + 1, .tup l => PD.okqs n l
  | n + 1, .lst l => PD.okqs n l
  | _, .obj _ _ _ => false
def PD.okqs : Nat → List PD → Bool
  | _, [] => true
  | n, d :: ds => d.okq n && PD.okqs n ds
end
mutual
def PD.eqv : PD → PD → Bool
  | .non, .non => true
  | .bl a, .bl b => a == b
  | .bl a, .int j => (if a then 1 else 0) == j
  | .int i, .bl b => i == (if b then 1 else 0)
  | .int i, .int j => i == j
  | .str x, .str y => x == y
  | .tup xs, .tup ys => PD.eqvs xs ys
  | .lst xs, .lst ys => PD.eqvs xs ys
  | _, _ => false
def PD.eqvs : List PD → List PD → Bool
  | [], [] => true
  | x :: xs, y :: ys => PD.eqv x y && PD.eqvs xs ys
  | _, _ => false
end

mutual
theorem okq_lay : ∀ (n : Nat) (d : PD), d.okq n = true → d.py.canLay0 = true ∧ d.py.depth ≤ n
  | n, .non, _ => by simp [PD.py, PyData.canLay0, PyData.depth]
  | n, .bl _, _ => by simp [PD.py, PyData.canLay0, PyData.depth]
  | n, .int _, _ => by simp [PD.py, PyData.canLay0, PyData.depth]
  | n, .str x, h => by
    have h' : PySem.PyData.strOk x = true := by cases n <;> simpa [PD.okq] using h
    simp [PD.py, PyData.canLay0, PyData.depth, h']
  | 0, .tup l, h => by simp [PD.okq] at h
  | 0, .lst l, h => by simp [PD.okq] at h
  | n + 1, .tup l, h => by
    have h' : PD.okqs n l = true := by simpa [PD.okq] using h
    obtain ⟨a, b⟩ := okqs_lay n l h'
    simp only [PD.py, PyData.canLay0, PyData.depth]
    exact ⟨a, by omega⟩
  | n + 1, .lst l, h => by
    have h' : PD.okqs n l = true := by simpa [PD.okq] using h
    obtain ⟨a, b⟩ := okqs_lay n l h'
    simp only [PD.py, PyData.canLay0, PyData.depth]
    exact ⟨a, by omega⟩
  | n, .obj _ _ _, h => by cases n <;> simp [PD.okq] at h
theorem okqs_lay : ∀ (n : Nat) (ds : List PD), PD.okqs n ds = true → PyData.canLayAll0 (PD.pys ds) = true ∧ PyData.depthAll (PD.pys ds) ≤ n
  | n, [], _ => by simp [PD.pys, PyData.canLayAll0, PyData.depthAll]
  | n, d :: ds, h => by
    simp only [PD.okqs, Bool.and_eq_true] at h
    obtain ⟨a, b⟩ := okq_lay n d h.1
    obtain ⟨c, e⟩ := okqs_lay n ds h.2
    simp only [PD.pys, PyData.canLayAll0, PyData.depthAll, a, c, Bool.and_self, true_and]
    omega
end
theorem okq_shaped {d : PD} (h : d.okq 60 = true) : SeqAt.shaped d.py = true := by
  obtain ⟨a, b⟩ := okq_lay 60 d h
  unfold SeqAt.shaped
  rw [a, Bool.true_and]
  exact decide_eq_true (by omega)
mutual
theorem py_eqv : ∀ (a b : PD) (n m : Nat), a.okq n = true → b.okq m = true → PyData.eqv a.py b.py = PD.eqv a b
  | .non, b, n, m, _, h => by cases b <;> first | (simp [PD.py, PyData.eqv, PD.eqv]; done) | (cases m <;> simp [PD.okq] at h)
  | .bl _, b, n, m, _, h => by cases b <;> first | (simp [PD.py, PyData.eqv, PD.eqv]; done) | (cases m <;> simp [PD.okq] at h)
  | .int _, b, n, m, _, h => by cases b <;> first | (simp [PD.py, PyData.eqv, PD.eqv]; done) | (cases m <;> simp [PD.okq] at h)
  | .str _, b, n, m, _, h => by cases b <;> first | (simp [PD.py, PyData.eqv, PD.eqv]; done) | (cases m <;> simp [PD.okq] at h)
  | .tup l, b, n, m, ha, h => by
    cases b with
    | tup l' =>
      cases n with
      | zero => simp [PD.okq] at ha
      | succ n =>
        cases m with
        | zero => simp [PD.okq] at h
        | succ m =>
          simp only [PD.okq] at ha h
          simp only [PD.py, PyData.eqv, PD.eqv]
          exact pys_eqv l l' n m ha h
    | obj _ _ _ => cases m <;> simp [PD.okq] at h
    | _ => simp [PD.py, PyData.eqv, PD.eqv]
  | .lst l, b, n, m, ha, h => by
    cases b with
    | lst l' =>
      cases n with
      | zero => simp [PD.okq] at ha
      | succ n =>
        cases m with
        | zero => simp [PD.okq] at h
        | succ m =>
          simp only [PD.okq] at ha h
          simp only [PD.py, PyData.eqv, PD.eqv]
          exact pys_eqv l l' n m ha h
    | obj _ _ _ => cases m <;> simp [PD.okq] at h
    | _ => simp [PD.py, PyData.eqv, PD.eqv]
  | .obj _ _ _, b, n, m, ha, h => by cases n <;> simp [PD.okq] at ha
theorem pys_eqv : ∀ (as bs : List PD) (n m : Nat), PD.okqs n as = true → PD.okqs m bs = true → PyData.eqvAll (PD.pys as) (PD.pys bs) = PD.eqvs as bs
  | [], [], _, _, _, _ => by simp [PD.pys, PyData.eqvAll, PD.eqvs]
  | [], _ :: _, _, _, _, _ => by simp [PD.pys, PyData.eqvAll, PD.eqvs]
  | _ :: _, [], _, _, _, _ => by simp [PD.pys, PyData.eqvAll, PD.eqvs]
  | a :: as, b :: bs, n, m, ha, hb => by
    simp only [PD.okqs, Bool.and_eq_true] at ha hb
    simp only [PD.pys, PyData.eqvAll, PD.eqvs]
    rw [py_eqv a b n m ha.1 hb.1, pys_eqv as bs n m ha.2 hb.2]
end
mutual
theorem Rp.dp {K : PySem.W.Frag} {G : Hp} : ∀ (n : Nat) (d : PD) {v : V}, Rp K G v d → d.okq n = true → Dp K G v d.py
  | _, .non, _, h, _ => by cases h; exact .non
  | _, .bl _, _, h, _ => by cases h; exact .bl _
  | _, .int _, _, h, _ => by cases h; exact .int _
  | _, .str _, _, h, _ => by cases h; exact .str _
  | 0, .tup _, _, h, o => by simp [PD.okq] at o
  | 0, .lst _, _, h, o => by simp [PD.okq] at o
  | n + 1, .tup l, _, h, o => by
    simp only [PD.okq] at o
    cases h with
    | tup q p => exact .tup q (Rp.dps n l p o)
  | n + 1, .lst l, _, h, o => by
    simp only [PD.okq] at o
    cases h with
    | lst q p => exact .lst q (Rp.dps n l p o)
  | n, .obj _ _ _, _, _, o => by cases n <;> simp [PD.okq] at o
theorem Rp.dps {K : PySem.W.Frag} {G : Hp} : ∀ (n : Nat) (ds : List PD) {vs : List V}, Paired (Rp K G) vs ds → PD.okqs n ds = true → DpAll K G vs (PD.pys ds)
  | _, [], _, h, _ => by cases h; exact .nil
  | n, d :: ds, _, h, o => by
    simp only [PD.okqs, Bool.and_eq_true] at o
    cases h with
    | cons r t => exact .cons (Rp.dp n d r o.1) (Rp.dps n ds t o.2)
end
/-- x == y; none where the layer does not tell -/
def eqF (s : DS) (d e : D) : Option Bool := match deepV fuel s d, deepV fuel s e with
  | some x, some y => match x, y with
    | .str a, .str b => some (decide (a = b))
    | x, y => if x.okq 60 && y.okq 60 then some (PD.eqv x y) else none
  | _, _ => none
def fEq : D → D → DS → ER D := fun d e s => match eqF s d e with
  | some k => .ok (.p (.bl k)) s
  | none => .no
def fNe : D → D → DS → ER D := fun d e s => match eqF s d e with
  | some k => .ok (.p (.bl (!k))) s
  | none => .no
section
variable {X : Cx} {c : DC}
def rEq2 (X : Cx) : R2 := fun x y H Q => rEq x y H Q ∨ rEqD X.K x y H Q
def rNe2 (X : Cx) : R2 := fun x y H Q => rNe x y H Q ∨ rNeD X.K x y H Q
theorem op_eq2 (hu : X.A.units + 64 < cLine) : OpR X (compareOp .Eq) (rEq2 X) := op_eq.or (op_eqD hu)
theorem op_ne2 (hu : X.A.units + 64 < cLine) : OpR X (compareOp .NotEq) (rNe2 X) := op_ne.or (op_neD hu)
theorem eqF_ok {K : PySem.W.Frag} {G : Hp} {φ : List Addr} {s : DS} {σ : St} {H : Hp} {x y : V} {d e : D} {k : Bool} (S : Sim K c G φ s σ H) (rx : RD K G φ x d) (ry : RD K G φ y e) (h : eqF s d e = some k) :
    (scal x y = true ∧ k = decide (x = y)) ∨ ∃ a b, Dp K H x a ∧ Dp K H y b ∧ SeqAt.shaped a = true ∧ SeqAt.shaped b = true ∧ k = PyData.eqv a b := by
  unfold eqF at h
  cases q1 : deepV fuel s d with
  | none => rw [q1] at h; cases h
  | some a =>
    cases q2 : deepV fuel s e with
    | none => rw [q1, q2] at h; cases h
    | some b =>
      rw [q1, q2] at h
      have ra := deepV_ok S fuel d rx q1
      have rb := deepV_ok S fuel e ry q2
      have gen : (if a.okq 60 && b.okq 60 then some (PD.eqv a b) else none) = some k → ∃ a b, Dp K H x a ∧ Dp K H y b ∧ SeqAt.shaped a = true ∧ SeqAt.shaped b = true ∧ k = PyData.eqv a b := fun h => by
        split at h
        · rename_i hk
          simp only [Bool.and_eq_true] at hk
          refine ⟨a.py, b.py, Rp.dp 60 a ra hk.1, Rp.dp 60 b rb hk.2, okq_shaped hk.1, okq_shaped hk.2, ?_⟩
          rw [py_eqv a b 60 60 hk.1 hk.2]
          exact (Option.some.inj h).symm
        · cases h
      dsimp only at h
      split at h
      · rename_i u w e1 e2
        cases rp_str ra
        cases rp_str rb
        refine .inl ⟨rfl, ?_⟩
        rw [← Option.some.inj h]
        rw [Bool.eq_iff_iff]
        simp
      · exact .inr (gen h)
theorem d_eq : DOp X c (rEq2 X) fEq := fun G φ s σ H x y d e Q S rx ry p => by
  unfold fEq at p
  cases q : eqF s d e with
  | none => rw [q] at p; exact p.elim
  | some k =>
    rw [q] at p
    have fin := Po.ok p Gr.refl S (show RD X.K G φ (.bl k) (.p (.bl k)) from .bl k)
    rcases eqF_ok S rx ry q with ⟨h1, h2⟩ | ⟨a, b, h1, h2, h3, h4, h5⟩
    · exact .inl ⟨h1, by rw [← h2]; exact fin⟩
    · exact .inr ⟨a, b, h1, h2, h3, h4, by rw [← h5]; exact fin⟩
theorem d_ne : DOp X c (rNe2 X) fNe := fun G φ s σ H x y d e Q S rx ry p => by
  unfold fNe at p
  cases q : eqF s d e with
  | none => rw [q] at p; exact p.elim
  | some k =>
    rw [q] at p
    have fin := Po.ok p Gr.refl S (show RD X.K G φ (.bl (!k)) (.p (.bl (!k))) from .bl (!k))
    rcases eqF_ok S rx ry q with ⟨h1, h2⟩ | ⟨a, b, h1, h2, h3, h4, h5⟩
    · exact .inl ⟨h1, by rw [← h2]; exact fin⟩
    · exact .inr ⟨a, b, h1, h2, h3, h4, by rw [← h5]; exact fin⟩

def i2 (g : Int → Int → ER D) : D → D → DS → ER D := fun d e _ => match d, e with
  | .p (.int i), .p (.int j) => g i j
  | _, _ => .no
/-- an int operation -/
def fI (C : Int → Int → Bool) (g : Int → Int → PD) : D → D → DS → ER D := fun d e s => match d, e with
  | .p (.int i), .p (.int j) => if C i j then .ok (.p (g i j)) s else .no
  | _, _ => .no
theorem d_I {r : R2} {C : Int → Int → Bool} {g : Int → Int → PD} {gv : Int → Int → V} (hg : ∀ i j G, Rp X.K G (gv i j) (g i j)) (hr : ∀ i j H Q, C i j = true → Q (gv i j) H → r (.int i) (.int j) H Q) : DOp X c r (fI C g) := fun G φ s σ H x y d e Q S rx ry p => by
  unfold fI at p
  split at p
  · rename_i i j
    split at p
    · rename_i hc
      cases rp_int rx
      cases rp_int ry
      exact hr i j H Q hc (Po.ok p Gr.refl S (hg i j G))
    · exact p.elim
  · exact p.elim
abbrev yes2 : Int → Int → Bool := fun _ _ => true
def fSub := fI yes2 fun i j => .int (i - j)
theorem d_sub : DOp X c (rI0 fun i j => .int (i - j)) fSub := d_I (fun _ _ _ => .int _) fun i j H Q _ q => ⟨i, j, rfl, rfl, q⟩
def bigC (i j : Int) : Bool := decide (i.natAbs.log2 + j.natAbs.log2 < 1000000)
def fMulI := fI bigC fun i j => .int (i * j)
theorem d_mulI : DOp X c (rI CMulW fun i j => .int (i * j)) fMulI := d_I (fun _ _ _ => .int _) fun i j H Q h q => ⟨i, j, rfl, rfl, (show i.natAbs.log2 + j.natAbs.log2 < 1000000 from of_decide_eq_true h), q⟩
def divC (_ j : Int) : Bool := decide (j ≠ 0) && decide (j.natAbs.log2 < 9000)
def CDivA (_ j : Int) : Prop := j ≠ 0 ∧ j.natAbs.log2 < 9000
theorem op_fdivA : OpR X (binaryOp .FloorDiv) (rI CDivA fun i j => .int (i.fdiv j)) := opI fun i j _ _ _ _ _ hc q => PyProof.Rows.floordiv_int hc.1 q (.inl (PyProof.noPylong_of_log2 hc.2))
def fDiv := fI divC fun i j => .int (i.fdiv j)
theorem d_div : DOp X c (rI CDivA fun i j => .int (i.fdiv j)) fDiv := d_I (fun _ _ _ => .int _) fun i j H Q h q => by
  unfold divC at h
  rw [Bool.and_eq_true] at h
  exact ⟨i, j, rfl, rfl, ⟨of_decide_eq_true h.1, of_decide_eq_true h.2⟩, q⟩
def fMod := fI (fun _ j => decide (j ≠ 0)) fun i j => .int (i.fmod j)
theorem d_mod : DOp X c (rI (fun _ j => j ≠ 0) fun i j => .int (i.fmod j)) fMod := d_I (fun _ _ _ => .int _) fun i j H Q h q => ⟨i, j, rfl, rfl, of_decide_eq_true h, q⟩
def powC (i j : Int) : Bool := decide (0 ≤ j) && (decide (j ≤ 1000000) && decide (i.natAbs < 2 ^ 64))
def fPow := fI powC fun i j => .int (i ^ j.toNat)
theorem d_pow : DOp X c (rI CPow fun i j => .int (i ^ j.toNat)) fPow := d_I (fun _ _ _ => .int _) fun i j H Q h q => by
  unfold powC at h
  simp only [Bool.and_eq_true, decide_eq_true_eq] at h
  exact ⟨i, j, rfl, rfl, h, q⟩
/-- < of whole numbers, of texts -/
def fOrd (g : Int → Int → Bool) (gs : List Nat → List Nat → Bool) : D → D → DS → ER D := fun d e s => match d, e with
  | .p (.int i), .p (.int j) => .ok (.p (.bl (g i j))) s
  | .p (.str i), .p (.str j) => .ok (.p (.bl (gs i.cps.toList j.cps.toList))) s
  | _, _ => .no
def rOrd (g : Int → Int → Bool) (gs : List Nat → List Nat → Bool) : R2 := fun x y H Q => (rI0 fun i j => .bl (g i j)) x y H Q ∨ ∃ i j, x = .str i ∧ y = .str j ∧ Q (.bl (gs i.cps.toList j.cps.toList)) H
theorem d_ord {g : Int → Int → Bool} {gs : List Nat → List Nat → Bool} : DOp X c (rOrd g gs) (fOrd g gs) := fun G φ s σ H x y d e Q S rx ry p => by
  unfold fOrd at p
  split at p
  · rename_i i j
    cases rp_int rx
    cases rp_int ry
    exact .inl ⟨i, j, rfl, rfl, Po.ok p Gr.refl S (.bl _)⟩
  · rename_i i j
    cases rp_str rx
    cases rp_str ry
    exact .inr ⟨i, j, rfl, rfl, Po.ok p Gr.refl S (.bl _)⟩
  · exact p.elim
abbrev fLt := fOrd (fun i j => decide (i < j)) fun i j => decide (i < j)
abbrev fLe := fOrd (fun i j => decide (i ≤ j)) fun i j => !decide (j < i)
abbrev fGt := fOrd (fun i j => decide (j < i)) fun i j => decide (j < i)
abbrev fGe := fOrd (fun i j => decide (j ≤ i)) fun i j => !decide (i < j)
theorem op_lt2 : OpR X (compareOp .Lt) (rOrd (fun i j => decide (i < j)) fun i j => decide (i < j)) := op_lt.or op_lt_str
theorem op_le2 : OpR X (compareOp .LtE) (rOrd (fun i j => decide (i ≤ j)) fun i j => !decide (j < i)) := op_le.or op_le_str
theorem op_gt2 : OpR X (compareOp .Gt) (rOrd (fun i j => decide (j < i)) fun i j => decide (j < i)) := op_gt.or op_gt_str
theorem op_ge2 : OpR X (compareOp .GtE) (rOrd (fun i j => decide (j ≤ i)) fun i j => !decide (i < j)) := op_ge.or op_ge_str
def fNeg : D → DS → ER D := fun d s => match d with
  | .p (.int i) => .ok (.p (.int (-i))) s
  | _ => .no
theorem d_neg : DUn X c (rU fun i => .int (-i)) fNeg := fun G φ s σ H x d Q S rx p => by
  unfold fNeg at p
  split at p
  · rename_i i
    cases rp_int rx
    exact ⟨i, rfl, Po.ok p Gr.refl S (.int _)⟩
  · exact p.elim
end

section
variable {X : Cx} {c : DC}
theorem paired_append {α β : Type} {R : α → β → Prop} : ∀ {xs xs' : List α} {ys ys' : List β}, Paired R xs ys → Paired R xs' ys' → Paired R (xs ++ xs') (ys ++ ys')
  | _, _, _, _, .nil, h => h
  | _, _, _, _, .cons a t, h => .cons a (paired_append t h)
def rCatL (K : PySem.W.Frag) : R2 := fun x y H Q => ∃ l b xs zs, x = .ref l ∧ y = .ref b ∧ SqL K H l xs ∧ SqL K H b zs ∧ xs.length + zs.length ≤ sizeLine ∧ ∀ p, H p = none → Q (.ref p) (upd H p (.lst (xs ++ zs)))
theorem op_catL : OpR X (binaryOp .Add) (rCatL X.K) := by
  intro pins s σ H x y v u Q I rx ry h
  obtain ⟨l, b, xs, zs, rfl, rfl, hH, hB, hz, q⟩ := h
  cases rx
  cases ry
  obtain ⟨its, r, pl, _⟩ := I.list hH
  obtain ⟨its2, r2, pl2, _⟩ := I.list hB
  have hl := r.length
  have hl2 := r2.length
  obtain ⟨⟨cls, dd, data, sl⟩, n, ho, hc, _, hd⟩ := pl
  obtain ⟨⟨cls2, dd2, data2, sl2⟩, n2, ho2, hc2, _, hd2⟩ := pl2
  simp only at hc hd hc2 hd2
  subst hc hd hc2 hd2
  have e : its.toArray ++ its2.toArray = (its ++ its2).toArray := by simp
  refine PySem.concat_meets ⟨_, ho, rfl⟩ ⟨_, ho2, rfl⟩ noFill_list_add seq_list_add PySem.F.slot_list_add PySem.F.entry_list_add (PySem.F.args_list_add_2 _ _) (PyProof.Rows.list_addW l b its.toArray its2.toArray n n2 dd dd2 sl sl2 (by rw [List.size_toArray, List.size_toArray]; omega)) ⟨ho, ho2, ?_⟩
  rw [e]
  exact ⟨.ref _, _, I.lnew (t' := s.toks) (r.append r2) (by rw [List.length_append]; omega), rfl, q _ I.fresh⟩
def rAddAll (X : Cx) : R2 := fun x y H Q => ((rI0 fun i j => .int (i + j)) x y H Q ∨ (∃ i j, x = .str i ∧ y = .str j ∧ i.length + j.length ≤ sizeLine ∧ Q (.str (i ++ j)) H)) ∨ (rCatA X.K x y H Q ∨ rCatL X.K x y H Q)
theorem op_addAll : OpR X (binaryOp .Add) (rAddAll X) := (op_add.or op_add_str).or (op_catA.or op_catL)
def fAdd : D → D → DS → ER D := fun d e s => match d, e with
  | .p (.int i), .p (.int j) => .ok (.p (.int (i + j))) s
  | .p (.str i), .p (.str j) => if i.length + j.length ≤ line then .ok (.p (.str (i ++ j))) s else .no
  | .p (.tup a), .p (.tup b) => if a.length + b.length ≤ line then .ok (.p (.tup (a ++ b))) s else .no
  | d, e => match listOf s d, listOf s e with
    | some l, some l' => fLst (l ++ l') s
    | _, _ => .no
theorem d_add : DOp X c (rAddAll X) fAdd := fun G φ s σ H x y d e Q S rx ry p => by
  unfold fAdd at p
  split at p
  · rename_i i j
    cases rp_int rx
    cases rp_int ry
    exact .inl (.inl ⟨i, j, rfl, rfl, Po.ok p Gr.refl S (.int _)⟩)
  · rename_i i j
    cases rp_str rx
    cases rp_str ry
    split at p
    · rename_i h
      exact .inl (.inr ⟨i, j, rfl, rfl, by rw [line_eq]; exact h, Po.ok p Gr.refl S (.str _)⟩)
    · exact p.elim
  · rename_i a b
    split at p
    · rename_i hl
      have rx' : Rp X.K G x (.tup a) := rx
      have ry' : Rp X.K G y (.tup b) := ry
      cases rx' with
      | @tup a1 xs _ qx px =>
        cases ry' with
        | @tup a2 ys _ qy py =>
          have ly : ys.length = b.length := paired_length py
          have lx : xs.length = a.length := paired_length px
          refine .inr (.inl ⟨a1, a2, xs, ys, rfl, rfl, Same.seqT S.gh qx, Same.seqT S.gh qy, by rw [line_eq, lx, ly]; exact hl, fun e => ?_, fun e1 e2 => ?_, fun e1 e2 t ht => ?_⟩)
          · subst e
            cases px
            exact Po.ok p Gr.refl S (show RD X.K G φ (.ref a2) (.p (.tup ([] ++ b))) from .tup qy py)
          · subst e2
            cases py
            rw [List.append_nil] at p
            exact Po.ok p Gr.refl S (show RD X.K G φ (.ref a1) (.p (.tup a)) from .tup qx px)
          · obtain ⟨S3, g3⟩ := S.lay (o := .tup (xs ++ ys)) ht
            exact Po.ok p g3 S3 (.tup (SqT.of upd_same) (Rp.ups g3.g _ (paired_append px py)))
    · exact p.elim
  · cases q1 : listOf s d with
    | none => rw [q1] at p; exact p.elim
    | some l =>
      cases q2 : listOf s e with
      | none => rw [q1, q2] at p; exact p.elim
      | some l' =>
        rw [q1, q2] at p
        obtain ⟨a, xs, rfl, ha, pa⟩ := listOf_ok S rx q1
        obtain ⟨b, ys, rfl, hb, pb⟩ := listOf_ok S ry q2
        obtain ⟨hz, fin⟩ := lst_new S (paired_append pa pb) p
        exact .inr (.inr ⟨a, b, xs, ys, rfl, rfl, ha, hb, by rw [List.length_append] at hz; exact hz, fin⟩)
theorem op_mulAll : OpR X (binaryOp .Mult) (fun x y H Q => (rI CMulW fun i j => .int (i * j)) x y H Q ∨ rRep x y H Q) := op_mulW.or op_rep
def fMul : D → D → DS → ER D := fun d e s => match d, e with
  | .p (.int i), .p (.int j) => if bigC i j then .ok (.p (.int (i * j))) s else .no
  | .ref n, .p (.int k) => match s.cells[n]? with
    | some (.lst l) => if (-(2 ^ 63) ≤ k ∧ k < 2 ^ 63) ∧ l.length * k.toNat ≤ line then fLst (List.replicate k.toNat l).flatten s else .no
    | _ => .no
  | _, _ => .no
theorem paired_rep {α β : Type} {R : α → β → Prop} {xs : List α} {ys : List β} (h : Paired R xs ys) : ∀ k : Nat, Paired R (List.replicate k xs).flatten (List.replicate k ys).flatten
  | 0 => .nil
  | k + 1 => by
    rw [List.replicate_succ, List.replicate_succ, List.flatten_cons, List.flatten_cons]
    exact paired_append h (paired_rep h k)
theorem d_mul : DOp X c (fun x y H Q => (rI CMulW fun i j => .int (i * j)) x y H Q ∨ rRep x y H Q) fMul := fun G φ s σ H x y d e Q S rx ry p => by
  unfold fMul at p
  split at p
  · rename_i i j
    cases rp_int rx
    cases rp_int ry
    split at p
    · rename_i h
      exact .inl ⟨i, j, rfl, rfl, (show i.natAbs.log2 + j.natAbs.log2 < 1000000 from of_decide_eq_true h), Po.ok p Gr.refl S (.int _)⟩
    · exact p.elim
  · rename_i n k
    obtain ⟨a, h1, rfl⟩ := rx
    cases rp_int ry
    split at p
    · rename_i l hc
      split at p
      · rename_i hk
        obtain ⟨_, vs, hH, r⟩ := S.cell n a _ h1 hc
        obtain ⟨hz, fin⟩ := lst_new S (paired_rep r k.toNat) p
        exact .inr ⟨a, k, vs, rfl, rfl, hH, hk.1.1, hk.1.2, by rw [line_eq, paired_length r]; exact hk.2, fin⟩
      · exact p.elim
    · exact p.elim
  · exact p.elim
end

section
variable {X : Cx} {c : DC}
def isNon : D → Bool
  | .p .non => true
  | _ => false
def fIs : D → D → DS → ER D := fun d e s => match e with
  | .p .non => .ok (.p (.bl (isNon d))) s
  | .p (.bl b) => match d with
    | .p (.bl a) => .ok (.p (.bl (decide (a = b)))) s
    | _ => .no
  | _ => .no
def fIsNot : D → D → DS → ER D := fun d e s => match e with
  | .p .non => .ok (.p (.bl (!isNon d))) s
  | .p (.bl b) => match d with
    | .p (.bl a) => .ok (.p (.bl (!decide (a = b)))) s
    | _ => .no
  | _ => .no
def rIs : R2 := fun x y H Q => (y = .non ∧ Q (.bl (decide (x = .non))) H) ∨ ∃ a b, x = .bl a ∧ y = .bl b ∧ Q (.bl (decide (a = b))) H
def rIsNot : R2 := fun x y H Q => (y = .non ∧ Q (.bl (!decide (x = .non))) H) ∨ ∃ a b, x = .bl a ∧ y = .bl b ∧ Q (.bl (!decide (a = b))) H
theorem op_is2 : OpR X (compareOp .Is) rIs := op_isN.or op_is_bl
theorem op_isnot2 : OpR X (compareOp .IsNot) rIsNot := op_notN.or op_isnot_bl
theorem isNon_ok {K : PySem.W.Frag} {G : Hp} {φ : List Addr} {x : V} {d : D} (r : RD K G φ x d) : decide (x = .non) = isNon d := by
  cases d with
  | ref n =>
    obtain ⟨a, _, rfl⟩ := r
    rfl
  | p d =>
    have r' : Rp K G x d := r
    cases r' <;> rfl
theorem d_is : DOp X c rIs fIs := fun G φ s σ H x y d e Q S rx ry p => by
  unfold fIs at p
  split at p
  · refine .inl ⟨rp_non ry, ?_⟩
    rw [isNon_ok rx]
    exact Po.ok p Gr.refl S (.bl _)
  · rename_i b
    split at p
    · rename_i a
      cases rp_bl rx
      cases rp_bl ry
      exact .inr ⟨a, b, rfl, rfl, Po.ok p Gr.refl S (.bl _)⟩
    · exact p.elim
  · exact p.elim
theorem d_isnot : DOp X c rIsNot fIsNot := fun G φ s σ H x y d e Q S rx ry p => by
  unfold fIsNot at p
  split at p
  · refine .inl ⟨rp_non ry, ?_⟩
    rw [isNon_ok rx]
    exact Po.ok p Gr.refl S (.bl _)
  · rename_i b
    split at p
    · rename_i a
      cases rp_bl rx
      cases rp_bl ry
      exact .inr ⟨a, b, rfl, rfl, Po.ok p Gr.refl S (.bl _)⟩
    · exact p.elim
  · exact p.elim
end

section
variable {X : Cx} {c : DC} {pos : Pos} {a b : Expr} {m n : DS → ER D}
theorem paired_get {α β : Type} {R : α → β → Prop} : ∀ {xs : List α} {ys : List β} {i : Nat} {y : β}, Paired R xs ys → ys[i]? = some y → ∃ x, xs[i]? = some x ∧ R x y
  | _, _, _, _, .nil, e => by simp at e
  | _, _, 0, _, .cons r _, e => by simp at e; subst e; exact ⟨_, rfl, r⟩
  | _, _, i + 1, y, .cons _ t, e => by
    obtain ⟨x, h1, h2⟩ := paired_get (i := i) (y := y) t (by simpa using e)
    exact ⟨x, by simpa using h1, h2⟩
theorem paired_at {α β : Type} {R : α → β → Prop} {xs : List α} {ys : List β} {i : Int} {y : β} (h : Paired R xs ys) (e : atI ys i = some y) : ∃ x, atI xs i = some x ∧ R x y := by
  unfold atI at e ⊢
  rw [paired_length h]
  cases q : ixN ys.length i with
  | none => rw [q] at e; cases e
  | some j =>
    rw [q] at e
    exact paired_get h e
def seqOf (s : DS) (d : D) : Option (List D) := match tupOf d with
  | some l => some (l.map .p)
  | none => listOf s d
def fIx : D → D → DS → ER D := fun d e s => match e with
  | .p (.int i) => match d with
    | .p (.str z) => if z.length ≤ line then match atI z.cps.toList i with
        | some ch => .ok (.p (.str ⟨#[ch]⟩)) s
        | none => .no
      else .no
    | d => match seqOf s d with
      | some l => match atI l i with
        | some x => .ok x s
        | none => .no
      | none => .no
  | _ => .no
theorem seqOf_ok {K : PySem.W.Frag} {G : Hp} {φ : List Addr} {s : DS} {σ : St} {H : Hp} (S : Sim K c G φ s σ H) {v : V} {d : D} {l : List D} (r : RD K G φ v d) (e : seqOf s d = some l) : ∃ a xs, v = .ref a ∧ (SqL K H a xs ∨ SqT K H a xs) ∧ RDs K G φ xs l := by
  unfold seqOf at e
  cases q : tupOf d with
  | some t =>
    rw [q] at e
    cases Option.some.inj e
    obtain ⟨a, xs, h1, h2, h3⟩ := tupOf_ok S r q
    exact ⟨a, xs, h1, .inr h2, paired_map (fun _ _ z => z) h3⟩
  | none =>
    rw [q] at e
    obtain ⟨a, xs, h1, h2, h3⟩ := listOf_ok S r e
    exact ⟨a, xs, h1, .inl h2, h3⟩
theorem d_ix : DOp X c (rIx X.K) fIx := fun G φ s σ H x y d e Q S rx ry p => by
  have gen : ∀ i, y = .int i → Po X.K c (RD X.K) ((match seqOf s d with
      | some l => match atI l i with
        | some x => .ok x s
        | none => .no
      | none => .no : ER D)) G φ σ Q → rIx X.K x y H Q := fun i ey p => by
    subst ey
    cases q : seqOf s d with
    | none => rw [q] at p; exact p.elim
    | some l =>
      rw [q] at p
      dsimp only at p
      obtain ⟨a, xs, rfl, h1, h2⟩ := seqOf_ok S rx q
      cases q2 : atI l i with
      | none => rw [q2] at p; exact p.elim
      | some z =>
        rw [q2] at p
        obtain ⟨v, h3, h4⟩ := paired_at h2 q2
        have fin := Po.ok p Gr.refl S h4
        rcases h1 with h1 | h1
        · exact .inl ⟨a, xs, i, v, rfl, rfl, h1, h3, fin⟩
        · exact .inr (.inl ⟨a, xs, i, v, rfl, rfl, h1, h3, fin⟩)
  unfold fIx at p
  split at p
  · rename_i i
    split at p
    · rename_i z
      cases rp_str rx
      split at p
      · rename_i hl
        cases q : atI z.cps.toList i with
        | none => rw [q] at p; exact p.elim
        | some ch =>
          rw [q] at p
          cases rp_int ry
          exact .inr (.inr ⟨z, i, ch, rfl, rfl, by rw [line_eq]; exact hl, q, Po.ok p Gr.refl S (.str _)⟩)
      · exact p.elim
    · exact gen i (rp_int ry) p
  · exact p.elim
theorem de_ix (ha : DE X c a m) (hb : DE X c b n) (hs : PlainIx b := by exact fun _ _ => rfl) : DE X c (.Subscript a b pos) (mBin fIx m n) := pe_imp (pe_ix ix_seq ha hb hs) (rd_bin d_ix)
end

section
variable {X : Cx} {c : DC} {pos p : Pos} {x : Str} {idn T : String} {e : Expr} {es : List Expr} {n : DS → ER (List D)} {r : List V → Hp → VK → Prop} {f : List D → DS → ER D}
theorem rd_call (hf : DCall X c r f) : ∀ σ H Q, rd X.K c (RD X.K) (mCB f n) σ H Q → tCB r (rd X.K c (RDs X.K) n) σ H Q := fun σ H Q h => by
  obtain ⟨G, φ, s, S, p⟩ := h
  refine (rd.bind (rel := RDs X.K) S p).mono fun vs H1 ⟨G1, φ1, s1, ds, g1, S1, r1, p1⟩ => ?_
  exact hf G1 φ1 s1 σ H1 vs ds Q S1 r1 p1
theorem de_callB (hc : CallR X (.builtin idn) r) (hf : DCall X c r f) (ha : DA X c (e :: es) n) (hg : Gl X x := by rfl) (hm : X.mg x = none := by assumption) (hv : bootBuiltins x = some (.builtin idn) := by decide +kernel) (hn : x ≠ "__name__" := by decide) (hdb : (x == ("__debug__" : Str)) = false := by decide)
    (he : starEach (e :: es) X.env = (false, eval e X.env) :: starEach es X.env := by rfl) (hpl : (backTo pos (starEach es X.env)).any (·.1) = false := by rfl) : DE X c (.Call (.Name x p) (e :: es) [] pos) (mCB f n) :=
  pe_imp (pe_callB hc hg hm hv ha hn hdb he hpl) (rd_call hf)
theorem de_callTy (hc : CallR X (.type T) r) (hf : DCall X c r f) (ha : DA X c (e :: es) n) (hg : Gl X x := by rfl) (hm : X.mg x = none := by assumption) (hv : bootBuiltins x = some (.type T) := by decide +kernel) (hn : x ≠ "__name__" := by decide) (hdb : (x == ("__debug__" : Str)) = false := by decide)
    (he : starEach (e :: es) X.env = (false, eval e X.env) :: starEach es X.env := by rfl) (hpl : (backTo pos (starEach es X.env)).any (·.1) = false := by rfl) : DE X c (.Call (.Name x p) (e :: es) [] pos) (mCB f n) :=
  pe_imp (pe_callTy hc hg hm hv ha hn hdb he hpl) (rd_call hf)
theorem de_callBfun (hc : CallR X (.builtin idn) r) (hf : DCall X c r f) (ha : DA X c (e :: es) n) (hm : X.mg x = some (.builtin idn)) (hg : Gl X x := by rfl) (hdb : (x == ("__debug__" : Str)) = false := by decide)
    (he : starEach (e :: es) X.env = (false, eval e X.env) :: starEach es X.env := by rfl) (hpl : (backTo pos (starEach es X.env)).any (·.1) = false := by rfl) : DE X c (.Call (.Name x p) (e :: es) [] pos) (mCB f n) :=
  pe_imp (pe_callBfun hc hg hm ha hdb he hpl) (rd_call hf)
theorem paired1 {R : V → D → Prop} {xs : List V} {d : D} (h : Paired R xs [d]) : ∃ v, xs = [v] ∧ R v d := by
  cases h with
  | cons a b => cases b; exact ⟨_, rfl, a⟩
theorem paired2 {R : V → D → Prop} {xs : List V} {d e : D} (h : Paired R xs [d, e]) : ∃ v u, xs = [v, u] ∧ R v d ∧ R u e := by
  cases h with
  | cons a b =>
    cases b with
    | cons a' b' => cases b'; exact ⟨_, _, rfl, a, a'⟩
def fLen : List D → DS → ER D := fun ds s => match ds with
  | [.p (.str z)] => if z.length ≤ line then .ok (.p (.int z.length)) s else .no
  | [d] => match seqOf s d with
    | some l => .ok (.p (.int l.length)) s
    | none => .no
  | _ => .no
theorem d_len : DCall X c (fun xs H Q => ∃ x n, xs = [x] ∧ LenV X.K x H n ∧ Q (.int n) H) fLen := fun G φ s σ H xs ds Q S r p => by
  unfold fLen at p
  split at p
  · rename_i z
    obtain ⟨v, rfl, r1⟩ := paired1 r
    cases rp_str r1
    split at p
    · rename_i hl
      exact ⟨_, z.length, rfl, (show z.length ≤ sizeLine ∧ z.length = z.length from ⟨by rw [line_eq]; exact hl, rfl⟩), Po.ok p Gr.refl S (.int _)⟩
    · exact p.elim
  · rename_i d _
    obtain ⟨v, rfl, r1⟩ := paired1 r
    cases q : seqOf s d with
    | none => rw [q] at p; exact p.elim
    | some l =>
      rw [q] at p
      obtain ⟨a, xs, rfl, h1, h2⟩ := seqOf_ok S r1 q
      refine ⟨_, l.length, rfl, ?_, Po.ok p Gr.refl S (.int _)⟩
      rcases h1 with h1 | h1
      · exact .inl ⟨xs, h1, (paired_length h2).symm⟩
      · exact .inr ⟨xs, h1, (paired_length h2).symm⟩
  · exact p.elim
def fAbs : List D → DS → ER D := fun ds s => match ds with
  | [.p (.int i)] => .ok (.p (.int (if i < 0 then -i else i))) s
  | _ => .no
theorem d_abs : DCall X c (fun xs H Q => ∃ i, xs = [.int i] ∧ Q (.int (if i < 0 then -i else i)) H) fAbs := fun G φ s σ H xs ds Q S r p => by
  unfold fAbs at p
  split at p
  · rename_i i
    obtain ⟨v, rfl, r1⟩ := paired1 r
    cases rp_int r1
    exact ⟨i, rfl, Po.ok p Gr.refl S (.int _)⟩
  · exact p.elim
def fInt : List D → DS → ER D := fun ds s => match ds with
  | [.p (.int i)] => .ok (.p (.int i)) s
  | [.p (.bl k)] => .ok (.p (.int (if k then 1 else 0))) s
  | _ => .no
theorem d_int : DCall X c (fun xs H Q => (∃ i, xs = [.int i] ∧ Q (.int i) H) ∨ ∃ k, xs = [.bl k] ∧ Q (.int (if k then 1 else 0)) H) fInt := fun G φ s σ H xs ds Q S r p => by
  unfold fInt at p
  split at p
  · rename_i i
    obtain ⟨v, rfl, r1⟩ := paired1 r
    cases rp_int r1
    exact .inl ⟨i, rfl, Po.ok p Gr.refl S (.int _)⟩
  · rename_i i
    obtain ⟨v, rfl, r1⟩ := paired1 r
    cases rp_bl r1
    exact .inr ⟨i, rfl, Po.ok p Gr.refl S (.int _)⟩
  · exact p.elim
def fStr : List D → DS → ER D := fun ds s => match ds with
  | [.p (.int i)] => if i.natAbs.log2 < 1920 then .ok (.p (.str (toString i))) s else .no
  | _ => .no
theorem d_str : DCall X c (fun xs H Q => ∃ i, xs = [.int i] ∧ i.natAbs.log2 < 1920 ∧ Q (.str (toString i)) H) fStr := fun G φ s σ H xs ds Q S r p => by
  unfold fStr at p
  split at p
  · rename_i i
    obtain ⟨v, rfl, r1⟩ := paired1 r
    cases rp_int r1
    split at p
    · rename_i h
      exact ⟨i, rfl, h, Po.ok p Gr.refl S (.str _)⟩
    · exact p.elim
  · exact p.elim
def fGcd : List D → DS → ER D := fun ds s => match ds with
  | [.p (.int i), .p (.int j)] => .ok (.p (.int ((Nat.gcd i.natAbs j.natAbs : Nat) : Int))) s
  | _ => .no
theorem d_gcd : DCall X c rGcd fGcd := fun G φ s σ H xs ds Q S r p => by
  unfold fGcd at p
  split at p
  · rename_i i j
    obtain ⟨v, u, rfl, r1, r2⟩ := paired2 r
    cases rp_int r1
    cases rp_int r2
    exact ⟨i, j, rfl, Po.ok p Gr.refl S (.int _)⟩
  · exact p.elim
def bools : List D → Option (List Bool)
  | [] => some []
  | .p (.bl b) :: r => (bools r).map fun bs => b :: bs
  | _ => none
theorem bools_ok {K : PySem.W.Frag} {G : Hp} {φ : List Addr} : ∀ {l : List D} {xs : List V} {bs : List Bool}, RDs K G φ xs l → bools l = some bs → xs = bs.map V.bl
  | [], _, _, r, e => by cases r; cases Option.some.inj e; rfl
  | .p (.bl b) :: l, _, _, .cons r t, e => by
    obtain ⟨bs, e1, e2⟩ := Option.map_eq_some_iff.mp e
    subst e2
    rw [bools_ok t e1]
    cases rp_bl r
    rfl
  | .p .non :: l, _, _, .cons r t, e => by cases e
  | .p (.int _) :: l, _, _, .cons r t, e => by cases e
  | .p (.str _) :: l, _, _, .cons r t, e => by cases e
  | .p (.tup _) :: l, _, _, .cons r t, e => by cases e
  | .p (.lst _) :: l, _, _, .cons r t, e => by cases e
  | .p (.obj _ _ _) :: l, _, _, .cons r t, e => by cases e
  | .ref _ :: l, _, _, .cons r t, e => by cases e
def fAll : List D → DS → ER D := fun ds s => match ds with
  | [d] => match listOf s d with
    | some l => match bools l with
      | some bs => .ok (.p (.bl (bs.all id))) s
      | none => .no
    | none => .no
  | _ => .no
def fAny : List D → DS → ER D := fun ds s => match ds with
  | [d] => match listOf s d with
    | some l => match bools l with
      | some bs => .ok (.p (.bl (bs.any id))) s
      | none => .no
    | none => .no
  | _ => .no
theorem d_all : DCall X c (rAll X.K) fAll := fun G φ s σ H xs ds Q S r p => by
  unfold fAll at p
  split at p
  · rename_i d
    obtain ⟨v, rfl, r1⟩ := paired1 r
    cases q : listOf s d with
    | none => rw [q] at p; exact p.elim
    | some l =>
      rw [q] at p
      dsimp only at p
      obtain ⟨a, xs, rfl, h1, h2⟩ := listOf_ok S r1 q
      cases q2 : bools l with
      | none => rw [q2] at p; exact p.elim
      | some bs =>
        rw [q2] at p
        have e := bools_ok h2 q2
        subst e
        exact ⟨a, bs, rfl, h1, Po.ok p Gr.refl S (.bl _)⟩
  · exact p.elim
theorem d_any : DCall X c (rAny X.K) fAny := fun G φ s σ H xs ds Q S r p => by
  unfold fAny at p
  split at p
  · rename_i d
    obtain ⟨v, rfl, r1⟩ := paired1 r
    cases q : listOf s d with
    | none => rw [q] at p; exact p.elim
    | some l =>
      rw [q] at p
      dsimp only at p
      obtain ⟨a, xs, rfl, h1, h2⟩ := listOf_ok S r1 q
      cases q2 : bools l with
      | none => rw [q2] at p; exact p.elim
      | some bs =>
        rw [q2] at p
        have e := bools_ok h2 q2
        subst e
        exact ⟨a, bs, rfl, h1, Po.ok p Gr.refl S (.bl _)⟩
  · exact p.elim
/-- tuple(x) -/
def fTuple : List D → DS → ER D := fun ds s => match ds with
  | [.p (.tup l)] => .ok (.p (.tup l)) s
  | [d] => match listOf s d with
    | some l => match frzs fuel s l with
      | some (xs, s') => .ok (.p (.tup xs)) s'
      | none => .no
    | none => .no
  | _ => .no
theorem d_tuple : DCall X c (fun xs H Q => ∃ p ys, xs = [.ref p] ∧ ((SqL X.K H p ys ∧ ∀ l, H l = none → Q (.ref l) (upd H l (.tup ys))) ∨ (SqT X.K H p ys ∧ Q (.ref p) H))) fTuple := fun G φ s σ H xs ds Q S r p => by
  unfold fTuple at p
  split at p
  · rename_i l
    obtain ⟨v, rfl, r1⟩ := paired1 r
    have r' : Rp X.K G v (.tup l) := r1
    cases r' with
    | @tup a xs _ q pr => exact ⟨a, xs, rfl, .inr ⟨Same.seqT S.gh q, Po.ok p Gr.refl S (show RD X.K G φ (.ref a) (.p (.tup l)) from .tup q pr)⟩⟩
  · rename_i d _
    obtain ⟨v, rfl, r1⟩ := paired1 r
    cases q : listOf s d with
    | none => rw [q] at p; exact p.elim
    | some l =>
      rw [q] at p
      dsimp only at p
      obtain ⟨a, xs, rfl, h1, h2⟩ := listOf_ok S r1 q
      cases q2 : frzs fuel s l with
      | none => rw [q2] at p; exact p.elim
      | some z =>
        obtain ⟨ys, s'⟩ := z
        rw [q2] at p
        obtain ⟨G2, g2, S2, h3⟩ := frzs_ok fuel l S q2
        refine ⟨a, xs, rfl, .inl ⟨h1, fun t ht => ?_⟩⟩
        obtain ⟨S3, g3⟩ := S2.lay (o := .tup xs) ht
        exact Po.ok p (g2.trans g3) S3 (.tup (SqT.of upd_same) (Rp.ups g3.g _ (h3 _ h2)))
  · exact p.elim
/-- list(x) -/
def fList : List D → DS → ER D := fun ds s => match ds with
  | [d] => match seqOf s d with
    | some l => fLst l s
    | none => .no
  | _ => .no
theorem d_list : DCall X c (fun xs H Q => ∃ p ys, xs = [.ref p] ∧ (SqL X.K H p ys ∨ SqT X.K H p ys) ∧ ∀ l, H l = none → Q (.ref l) (upd H l (.lst ys))) fList := fun G φ s σ H xs ds Q S r p => by
  unfold fList at p
  split at p
  · rename_i d
    obtain ⟨v, rfl, r1⟩ := paired1 r
    cases q : seqOf s d with
    | none => rw [q] at p; exact p.elim
    | some l =>
      rw [q] at p
      obtain ⟨a, xs, rfl, h1, h2⟩ := seqOf_ok S r1 q
      exact ⟨a, xs, rfl, h1, (lst_new S h2 p).2⟩
  · exact p.elim

def tyNm : PD → Option String
  | .non => some "NoneType"
  | .bl _ => some "bool"
  | .int _ => some "int"
  | .str _ => some "str"
  | .tup _ => some "tuple"
  | .lst _ => some "list"
  | .obj _ _ _ => none
def tyOfD (s : DS) : D → Option String
  | .p d => tyNm d
  | .ref n => match s.cells[n]? with
    | some (.lst _) => some "list"
    | some (.froz (.lst _)) => some "list"
    | _ => none
def fIsi (T : String) : D → DS → ER D := fun d s => match tyOfD s d with
  | some t => match kitB t T with
    | some b => .ok (.p (.bl b)) s
    | none => .no
  | none => .no
theorem tyOfD_ok {K : PySem.W.Frag} {G : Hp} {φ : List Addr} {s : DS} {σ : St} {H : Hp} (S : Sim K c G φ s σ H) {v : V} {d : D} {t : String} (r : RD K G φ v d) (e : tyOfD s d = some t) : TyX K H v (.type t) := by
  have lst : ∀ {a : Addr} {xs : List V}, SqL K H a xs → TyX K H (.ref a) (.type "list") := fun h => by
    rcases h with (h | ⟨o, h⟩) | ⟨o, its, n, h1, h2, _⟩
    · exact .base (.lst h)
    · exact .base (.frz h)
    · exact .kList h1 h2
  have tup : ∀ {a : Addr} {xs : List V}, SqT K H a xs → TyX K H (.ref a) (.type "tuple") := fun h => by
    rcases h with (h | ⟨o, h⟩) | ⟨o, its, n, h1, h2, _⟩
    · exact .base (.tup h)
    · exact .fTuple h
    · exact .kTuple h1 h2
  cases d with
  | p d =>
    have r' : Rp K G v d := r
    cases r' with
    | non => cases Option.some.inj e; exact .base .non
    | bl b => cases Option.some.inj e; exact .base (.bl b)
    | int i => cases Option.some.inj e; exact .base (.int i)
    | str x => cases Option.some.inj e; exact .base (.str x)
    | tup q p => cases Option.some.inj e; exact tup (Same.seqT S.gh q)
    | lst q p => cases Option.some.inj e; exact lst (S.gh.seq q)
    | exc _ _ _ _ => cases e
  | ref n =>
    obtain ⟨a, h1, rfl⟩ := r
    unfold tyOfD at e
    dsimp only at e
    cases q : s.cells[n]? with
    | none => rw [q] at e; cases e
    | some x =>
      rw [q] at e
      have ok := S.cell n a x h1 q
      cases x with
      | lst l =>
        cases Option.some.inj e
        obtain ⟨_, vs, hH, _⟩ := ok
        exact lst (SqL.of hH)
      | froz d =>
        cases d with
        | lst l =>
          cases Option.some.inj e
          have ok' : Rp K G (.ref a) (.lst l) := ok
          cases ok' with
          | lst q p => exact lst (S.gh.seq q)
        | _ => cases e
theorem de_isi {T : String} {y : Str} {p' : Pos} {a : Expr} {m : DS → ER D} (ha : DE X c a m) (hg : Gl X "isinstance" := by rfl) (hm : X.mg "isinstance" = none := by assumption) (hgT : Gl X y := by rfl) (hmT : X.mg y = none := by assumption) (hvT : bootBuiltins y = some (.type T) := by decide +kernel)
    (he1 : starEach [.Name y p'] X.env = [(false, eval (.Name y p') X.env)] := by rfl) (hnT : y ≠ "__name__" := by decide) (hdT : (y == ("__debug__" : Str)) = false := by decide)
    (he : starEach [a, .Name y p'] X.env = (false, eval a X.env) :: starEach [.Name y p'] X.env := by rfl) (hpl : (backTo pos (starEach [.Name y p'] X.env)).any (·.1) = false := by rfl) :
    DE X c (.Call (.Name "isinstance" p) [a, .Name y p'] [] pos) (mb m (fIsi T)) := by
  refine pe_imp (pe_callB call_isi hg hm (by decide +kernel) (pa_cons ha (pa_cons (pe_bltn hgT hmT hvT (v := .ty T) rfl hnT hdT) pa_nil he1) he) (by decide) (by decide) he hpl) fun σ H Q h => ?_
  obtain ⟨G, φ, s, S, p⟩ := h
  refine (rd.bind (rel := RD X.K) S p).mono fun v H1 ⟨G1, φ1, s1, d, g1, S1, r1, p1⟩ => ?_
  show rIsi X.K [v, .ty T] H1 Q
  unfold fIsi at p1
  cases q : tyOfD s1 d with
  | none => rw [q] at p1; exact p1.elim
  | some t =>
    rw [q] at p1
    dsimp only at p1
    cases q2 : kitB t T with
    | none => rw [q2] at p1; exact p1.elim
    | some b =>
      rw [q2] at p1
      exact ⟨v, .ty T, .type t, .type T, b, rfl, .ty T, tyOfD_ok S1 r1 q, kit_ty q2, Po.ok p1 Gr.refl S1 (.bl b)⟩
end

section
variable {X : Cx} {c : DC} {o e : Expr} {es : List Expr} {m : DS → ER D} {n : DS → ER (List D)} {name : Str} {apos cpos : Pos} {T idn : String} {r : V → List V → Hp → VK → Prop} {f : D → List D → DS → ER D}
def isL (s : DS) (d : D) : Bool := (listOf s d).isSome
/-- a list's method with arguments -/
def mBM (f : D → List D → DS → ER D) (m : DS → ER D) (n : DS → ER (List D)) : DS → ER D := mb m fun d s => if isL s d then (mb n fun ds => f d ds) s else .no
def mBM0 (f : D → List D → DS → ER D) (m : DS → ER D) : DS → ER D := mb m fun d s => if isL s d then f d [] s else .no
theorem tyV_list {K : PySem.W.Frag} {G : Hp} {φ : List Addr} {s : DS} {σ : St} {H : Hp} (S : Sim K c G φ s σ H) {v : V} {d : D} (r : RD K G φ v d) (h : isL s d = true) : tyV K "list" v H := by
  unfold isL at h
  obtain ⟨l, e⟩ := Option.isSome_iff_exists.mp h
  obtain ⟨a, xs, rfl, h1, _⟩ := listOf_ok S r e
  exact .inl ⟨rfl, xs, h1⟩
theorem de_bm (pa : _root_.PySem.PlainAttrs "list") (slot : _root_.PySem.Slot "list" name idn) (hty : typeOf (.builtin idn) = pure (.type "method_descriptor")) (hm : MtR X idn r) (hf : DMt X c r f) (ho : DE X c o m) (ha : DA X c (e :: es) n)
    (hbase : attributeBase o name X.env (eval o X.env) = eval o X.env := by rfl)
    (hfew : ((backTo cpos (starEach (e :: es) X.env)).all (fun x => !x.1) && (backToKw cpos (keywordEach [] X.env)).all (fun x => x.1.isSome)
      && decide ((e :: es).length + ([] : List Keyword).length + (if ([] : List Keyword).isEmpty then 0 else 1) < 30)) = true := by rfl)
    (hline : (apos.endLine == cpos.line) = true := by rfl) (hs : starEach (e :: es) X.env = (false, eval e X.env) :: starEach es X.env := by rfl) (hplain : (backTo cpos (starEach es X.env)).any (·.1) = false := by rfl) :
    DE X c (.Call (.Attribute o name apos) (e :: es) [] cpos) (mBM f m n) := pe_imp (pe_bm pa slot hty hm ho ha hbase hfew hline hs hplain) fun σ H Q h => by
  obtain ⟨G, φ, s, S, p⟩ := h
  refine (rd.bind (rel := RD X.K) S p).mono fun v H1 ⟨G1, φ1, s1, d, g1, S1, r1, p1⟩ => ?_
  split at p1
  · rename_i hl
    refine ⟨tyV_list S1 r1 hl, (rd.bind (rel := RDs X.K) S1 p1).mono fun vs H2 ⟨G2, φ2, s2, ds, g2, S2, r2, p2⟩ => ?_⟩
    exact hf G2 φ2 s2 σ H2 v vs d ds Q S2 (r1.up g2) r2 p2
  · exact p1.elim
theorem de_bm0 (pa : _root_.PySem.PlainAttrs "list") (slot : _root_.PySem.Slot "list" name idn) (hty : typeOf (.builtin idn) = pure (.type "method_descriptor")) (hm : MtR X idn r) (hf : DMt X c r f) (ho : DE X c o m)
    (hbase : attributeBase o name X.env (eval o X.env) = eval o X.env := by rfl) (hline : (apos.endLine == cpos.line) = true := by rfl) :
    DE X c (.Call (.Attribute o name apos) [] [] cpos) (mBM0 f m) := pe_imp (pe_bm0 pa slot hty hm ho hbase hline) fun σ H Q h => by
  obtain ⟨G, φ, s, S, p⟩ := h
  refine (rd.bind (rel := RD X.K) S p).mono fun v H1 ⟨G1, φ1, s1, d, g1, S1, r1, p1⟩ => ?_
  split at p1
  · rename_i hl
    exact ⟨tyV_list S1 r1 hl, hf G1 φ1 s1 σ H1 v [] d [] Q S1 r1 .nil p1⟩
  · exact p1.elim
/-- xs.append(e) -/
def fAppend : D → List D → DS → ER D := fun d ds s => match d, ds with
  | .ref k, [e] => match s.cells[k]? with
    | some (.lst l) => if l.length < line then .ok (.p .non) { s with cells := s.cells.set k (.lst (l ++ [e])) } else .no
    | _ => .no
  | _, _ => .no
theorem d_append : DMt X c rAppend fAppend := fun G φ s σ H x xs d ds Q S rx rs p => by
  unfold fAppend at p
  split at p
  · rename_i k e
    split at p
    · rename_i l hc
      split at p
      · rename_i hl
        obtain ⟨a, h1, rfl⟩ := rx
        obtain ⟨v, rfl, r1⟩ := paired1 rs
        obtain ⟨_, vs, hH, r⟩ := S.cell k a _ h1 hc
        refine ⟨a, vs, v, rfl, rfl, hH, by rw [line_eq, paired_length r]; exact hl, ?_⟩
        exact Po.ok p Gr.refl (S.setCell h1 hc (paired_append r (.cons r1 .nil))) .non
      · exact p.elim
    · exact p.elim
  · exact p.elim
end
end DL
namespace DL
open PySem PySem.Spec L2

inductive SR where
  | nx (s : DS)
  | rt (d : D) (s : DS)
  | bk (s : DS)
  | ct (s : DS)
  | exc (c : Nat) (fs : Fields) (s : DS)
  | no
def PoS (K : PySem.W.Frag) (c : DC) (o : SR) (G : Hp) (φ : List Addr) (D : Ends) : Prop :=
  match o with
  | .nx s' => ∀ σ' G' φ' H', Gr G φ G' φ' → Sim K c G' φ' s' σ' H' → D.nx σ' H'
  | .rt d s' => ∀ v σ' G' φ' H', Gr G φ G' φ' → Sim K c G' φ' s' σ' H' → RD K G' φ' v d → D.rt v H'
  | .bk s' => ∀ σ' G' φ' H', Gr G φ G' φ' → Sim K c G' φ' s' σ' H' → D.bk σ' H'
  | .ct s' => ∀ σ' G' φ' H', Gr G φ G' φ' → Sim K c G' φ' s' σ' H' → D.ct σ' H'
  | .exc e fs s' => ∀ cls dd σ' G' φ' H', Gr G φ G' φ' → Sim K c G' φ' s' σ' H' → XRp K c.cx G' cls dd e fs → c.W cls dd σ' H'
  | .no => False
def rdS (K : PySem.W.Frag) (c : DC) (m : DS → SR) : TS := fun D σ H => ∃ G φ s, Sim K c G φ s σ H ∧ PoS K c (m s) G φ D
abbrev DSt (X : Cx) (c : DC) (st : Stmt) (m : DS → SR) : Prop := PS X st (rdS X.K c m)
abbrev DSs (X : Cx) (c : DC) (sts : List Stmt) (m : DS → SR) : Prop := PSs X sts (rdS X.K c m)

/-- an expression's outcome, then a statement's -/
def eb {α : Type} (m : DS → ER α) (k : α → DS → SR) : DS → SR := fun s => match m s with
  | .ok a s' => k a s'
  | .exc e fs s' => .exc e fs s'
  | .no => .no
section
variable {K : PySem.W.Frag} {c : DC} {α β : Type} {rel : Hp → List Addr → β → α → Prop} {G G1 : Hp} {φ φ1 : List Addr} {σ : St} {H : Hp} {s : DS} {E : Ends}
theorem PoS.up {o : SR} (a : Gr G φ G1 φ1) (h : PoS K c o G φ E) : PoS K c o G1 φ1 E := by
  cases o with
  | nx s' => exact fun σ' G' φ' H' g => h σ' G' φ' H' (a.trans g)
  | rt d s' => exact fun v σ' G' φ' H' g => h v σ' G' φ' H' (a.trans g)
  | bk s' => exact fun σ' G' φ' H' g => h σ' G' φ' H' (a.trans g)
  | ct s' => exact fun σ' G' φ' H' g => h σ' G' φ' H' (a.trans g)
  | exc e fs s' => exact fun cls dd σ' G' φ' H' g => h cls dd σ' G' φ' H' (a.trans g)
  | no => exact h
theorem eb_bind {m : DS → ER α} {k : α → DS → SR} (S : Sim K c G φ s σ H) (h : PoS K c (eb m k s) G φ E) :
    rd K c rel m σ H (fun v H1 => ∃ G1 φ1 s1 d, Gr G φ G1 φ1 ∧ Sim K c G1 φ1 s1 σ H1 ∧ rel G1 φ1 v d ∧ PoS K c (k d s1) G1 φ1 E) := by
  refine ⟨G, φ, s, S, ?_⟩
  unfold eb at h
  cases e : m s with
  | ok d s' =>
    rw [e] at h
    intro v G' φ' H' g sm' r
    exact ⟨G', φ', s', d, g, sm', r, h.up g⟩
  | exc x fs s' => rw [e] at h; exact fun cls dd G' φ' H' => h cls dd σ G' φ' H'
  | no => rw [e] at h; exact h
end

section
variable {X : Cx} {c : DC} {pos : Pos} {st : Stmt} {rest a b : List Stmt} {m n : DS → SR} {e : Expr} {me : DS → ER D} {t : DS → ER Bool}
def sNext : DS → SR := fun s => .nx s
def sSeq (m n : DS → SR) : DS → SR := fun s => match m s with
  | .nx s' => n s'
  | o => o
theorem ds_nil : DSs X c [] sNext := pss_imp pss_nil fun D σ H h => by
  obtain ⟨G, φ, s, S, p⟩ := h
  exact p σ G φ H Gr.refl S
theorem ds_one (h : DSt X c st m) : DSs X c [st] m := pss_one h
theorem ds_cons (h1 : DSt X c st m) (h2 : DSs X c rest n) : DSs X c (st :: rest) (sSeq m n) := pss_imp (pss_cons h1 h2) fun D σ H h => by
  obtain ⟨G, φ, s, S, p⟩ := h
  refine ⟨G, φ, s, S, ?_⟩
  unfold sSeq at p
  cases q : m s with
  | nx s' => rw [q] at p; exact fun σ' G' φ' H' g S' => ⟨G', φ', s', S', PoS.up g p⟩
  | rt d s' => rw [q] at p; exact p
  | bk s' => rw [q] at p; exact p
  | ct s' => rw [q] at p; exact p
  | exc x fs s' => rw [q] at p; exact p
  | no => rw [q] at p; exact p
theorem ds_pass : DSt X c (.Pass pos) sNext := ps_imp ps_pass fun D σ H h => by
  obtain ⟨G, φ, s, S, p⟩ := h
  exact p σ G φ H Gr.refl S
def sBreak : DS → SR := fun s => .bk s
def sCont : DS → SR := fun s => .ct s
theorem ds_break : DSt X c (.Break pos) sBreak := ps_imp ps_break fun D σ H h => by
  obtain ⟨G, φ, s, S, p⟩ := h
  exact p σ G φ H Gr.refl S
theorem ds_cont : DSt X c (.Continue pos) sCont := ps_imp ps_continue fun D σ H h => by
  obtain ⟨G, φ, s, S, p⟩ := h
  exact p σ G φ H Gr.refl S
theorem ds_doc {x j pos'} : DSt X c (.Expr (.Constant (.str x) j pos) pos') sNext := ps_imp ps_doc fun D σ H h => by
  obtain ⟨G, φ, s, S, p⟩ := h
  exact p σ G φ H Gr.refl S
def sExpr (m : DS → ER D) : DS → SR := eb m fun _ s => .nx s
theorem ds_expr (he : DE X c e me) (hs : swapsWith e none pos.line X.env = pure false := by rfl) : DSt X c (.Expr e pos) (sExpr me) := ps_imp (ps_expr he hs) fun D σ H h => by
  obtain ⟨G, φ, s, S, p⟩ := h
  refine (eb_bind (rel := RD X.K) S p).mono fun v H1 ⟨G1, φ1, s1, d, g1, S1, r1, p1⟩ => ?_
  exact p1 σ G1 φ1 H1 Gr.refl S1
def sRet (m : DS → ER D) : DS → SR := eb m fun d s => .rt d s
theorem ds_ret (he : DE X c e me) : DSt X c (.Return (some e) pos) (sRet me) := ps_imp (ps_ret he) fun D σ H h => by
  obtain ⟨G, φ, s, S, p⟩ := h
  refine (eb_bind (rel := RD X.K) S p).mono fun v H1 ⟨G1, φ1, s1, d, g1, S1, r1, p1⟩ => ?_
  exact p1 v σ G1 φ1 H1 Gr.refl S1 r1
def sRetN : DS → SR := fun s => .rt (.p .non) s
theorem ds_retN : DSt X c (.Return none pos) sRetN := ps_imp ps_retN fun D σ H h => by
  obtain ⟨G, φ, s, S, p⟩ := h
  exact p .non σ G φ H Gr.refl S .non
def sIf (t : DS → ER Bool) (m n : DS → SR) : DS → SR := eb t fun k s => match k with
  | true => m s
  | false => n s
theorem ds_if (ht : DT X c e t) (ha : DSs X c a m) (hb : DSs X c b n) : DSt X c (.If e a b pos) (sIf t m n) := ps_imp (ps_if ht ha hb) fun D σ H h => by
  obtain ⟨G, φ, s, S, p⟩ := h
  refine (eb_bind (rel := relB) S p).mono fun v H1 ⟨G1, φ1, s1, k, g1, S1, r1, p1⟩ => ?_
  have r1' : v = k := r1
  subst r1'
  cases v with
  | true => exact iteT ⟨G1, φ1, s1, S1, p1⟩
  | false => exact iteF ⟨G1, φ1, s1, S1, p1⟩
/-- no exception is handled -/
abbrev Calm (c : DC) : Prop := c.hx = none
theorem Calm.ne {c : DC} (h : Calm c) (i : Nat) : ∀ j a cls dd, c.hx = some (j, a, cls, dd) → j ≠ i := fun j a cls dd e => by rw [h] at e; cases e
def sSet (i : Nat) (m : DS → ER D) : DS → SR := eb m fun d s => .nx { s with env := s.env.set i (some d) }
theorem ds_set {i : Nat} {x : Str} {pos' : Pos} (hc : Calm c) (hN : X.N.Nodup) (he : DE X c e me) (hi : X.N[i]? = some x := by rfl) (hx : Loc X.env.scope x := by first | exact Or.inl rfl | exact Or.inr rfl) (hs : swapsWith e (some (.Name x pos')) pos.line X.env = pure false := by rfl)
    (hf : X.fn x = true ∨ X.env.scope.names.lookup x = some .local := by first | exact .inl rfl | exact .inr rfl | assumption) : DSt X c (.Assign [.Name x pos'] e pos) (sSet i me) := ps_imp (ps_set hN hi hx he hs hf) fun D σ H h => by
  obtain ⟨G, φ, s, S, p⟩ := h
  refine (eb_bind (rel := RD X.K) S p).mono fun v H1 ⟨G1, φ1, s1, d, g1, S1, r1, p1⟩ => ?_
  exact p1 _ G1 φ1 H1 Gr.refl (S1.store r1 (hc.ne i))

/-- the target's function on the state keeps its reading -/
def DTg (X : Cx) (c : DC) (g : TG) (f : D → DS → Option DS) : Prop := ∀ (G : Hp) (φ : List Addr) (s : DS) (σ : St) (H : Hp) (v : V) (d : D) (Q : St → Hp → Prop), Sim X.K c G φ s σ H → RD X.K G φ v d →
  (match f d s with
    | some s' => ∀ σ' G' φ' H', Gr G φ G' φ' → Sim X.K c G' φ' s' σ' H' → Q σ' H'
    | none => False) → g v σ H Q
def DTgs (X : Cx) (c : DC) (g : TGs) (f : List PD → DS → Option DS) : Prop := ∀ (G : Hp) (φ : List Addr) (s : DS) (σ : St) (H : Hp) (vs : List V) (ds : List PD) (Q : St → Hp → Prop), Sim X.K c G φ s σ H → Paired (Rp X.K G) vs ds →
  (match f ds s with
    | some s' => ∀ σ' G' φ' H', Gr G φ G' φ' → Sim X.K c G' φ' s' σ' H' → Q σ' H'
    | none => False) → g vs σ H Q
def tgName (i : Nat) : D → DS → Option DS := fun d s => some { s with env := s.env.set i (some d) }
theorem dtg_name {i : Nat} (hc : Calm c) : DTg X c (gName i) (tgName i) := fun G φ s σ H v d Q S r h => h _ G φ H Gr.refl (S.store r (hc.ne i))
def tgNil : List PD → DS → Option DS := fun ds s => match ds with
  | [] => some s
  | _ => none
def tgCons (f : D → DS → Option DS) (g : List PD → DS → Option DS) : List PD → DS → Option DS := fun ds s => match ds with
  | d :: r => match f (.p d) s with
    | some s' => g r s'
    | none => none
  | [] => none
theorem dtg_nil : DTgs X c gNil tgNil := fun G φ s σ H vs ds Q S r h => by
  cases r with
  | nil => exact ⟨rfl, h σ G φ H Gr.refl S⟩
  | cons _ _ => exact h.elim
theorem dtg_cons {g : TG} {gs : TGs} {f : D → DS → Option DS} {fs : List PD → DS → Option DS} (h1 : DTg X c g f) (h2 : DTgs X c gs fs) : DTgs X c (gCons g gs) (tgCons f fs) := fun G φ s σ H vs ds Q S r h => by
  cases r with
  | nil => exact h.elim
  | @cons v d vs ds r t =>
    refine ⟨v, vs, rfl, h1 G φ s σ H v (.p d) _ S r ?_⟩
    unfold tgCons at h
    dsimp only at h
    cases q : f (.p d) s with
    | none => rw [q] at h; exact h.elim
    | some s' =>
      rw [q] at h
      dsimp only
      intro σ' G' φ' H' g' S'
      refine h2 G' φ' s' σ' H' vs ds Q S' (Rp.ups g'.g ds t) ?_
      dsimp only at h
      cases q2 : fs ds s' with
      | none => rw [q2] at h; exact h.elim
      | some s'' => rw [q2] at h; exact fun σ2 G2 φ2 H2 g2 => h σ2 G2 φ2 H2 (g'.trans g2)
def tgTup (n : Nat) (g : List PD → DS → Option DS) : D → DS → Option DS := fun d s => match d with
  | .p (.tup l) => if l.length = n then g l s else none
  | _ => none
theorem dtg_tup {n : Nat} {gs : TGs} {f : List PD → DS → Option DS} (h : DTgs X c gs f) : DTg X c (gTup X.K n gs) (tgTup n f) := fun G φ s σ H v d Q S r hq => by
  cases d with
  | ref _ => exact hq.elim
  | p d =>
    cases d with
    | tup l =>
      unfold tgTup at hq
      dsimp only at hq
      by_cases hl : l.length = n
      · rw [if_pos hl] at hq
        have r' : Rp X.K G v (.tup l) := r
        cases r' with
        | @tup a xs _ q p => exact ⟨a, xs, rfl, Same.seqT S.gh q, by rw [paired_length p]; exact hl, h G φ s σ H xs l Q S p hq⟩
      · rw [if_neg hl] at hq
        exact hq.elim
    | _ => exact hq.elim
/-- target = e -/
def sAsg (m : DS → ER D) (f : D → DS → Option DS) : DS → SR := eb m fun d s => match f d s with
  | some s' => .nx s'
  | none => .no
theorem ds_asg {tg : Expr} {g : TG} {f : D → DS → Option DS} (he : DE X c e me) (hg : PG X tg g) (hf : DTg X c g f) (hs : swapsWithSole [tg] e pos.line X.env = pure false := by rfl) (hw : swappedStores [tg] e X.env = pure none := by rfl)
    (h1 : (assignEach [tg] X.env).map (·.2) = [assign tg X.env] := by rfl) : DSt X c (.Assign [tg] e pos) (sAsg me f) := ps_imp (ps_asg he hg hs hw h1) fun D σ H h => by
  obtain ⟨G, φ, s, S, p⟩ := h
  refine (eb_bind (rel := RD X.K) S p).mono fun v H1 ⟨G1, φ1, s1, d, g1, S1, r1, p1⟩ => ?_
  refine hf G1 φ1 s1 σ H1 v d _ S1 r1 ?_
  cases q : f d s1 with
  | none => rw [q] at p1; exact p1.elim
  | some s' => rw [q] at p1; exact p1
/-- a, b = e1, e2 -/
def sPar (i j : Nat) (n : DS → ER (List D)) : DS → SR := eb n fun ds s => match ds with
  | [d, e] => .nx { s with env := (s.env.set i (some d)).set j (some e) }
  | _ => .no
theorem ds_par {i j : Nat} {x y : Str} {a b : Expr} {n : DS → ER (List D)} {px py pt : Pos} {kt k2 pt2} (hx0 : Calm c) (hN : X.N.Nodup) (ha : DA X c [a, b] n) (hc : X.calm = true := by rfl) (hi : X.N[i]? = some x := by rfl) (hj : X.N[j]? = some y := by rfl) (hij : i ≠ j := by decide)
    (hx : X.env.scope.names.lookup x = some .local := by rfl) (hy : X.env.scope.names.lookup y = some .local := by rfl)
    (hw : swappedStores [.Tuple [.Name x px, .Name y py] kt pt] (.Tuple [a, b] k2 pt2) X.env = pure (some [x, y]) := by rfl)
    (hs : swapsWithSole [.Tuple [.Name x px, .Name y py] kt pt] (.Tuple [a, b] k2 pt2) pos.line X.env = pure false := by rfl) :
    DSt X c (.Assign [.Tuple [.Name x px, .Name y py] kt pt] (.Tuple [a, b] k2 pt2) pos) (sPar i j n) := ps_imp (ps_par hc hN hi hj hij hx hy ha hw hs) fun D σ H h => by
  obtain ⟨G, φ, s, S, p⟩ := h
  refine (eb_bind (rel := RDs X.K) S p).mono fun v H1 ⟨G1, φ1, s1, ds, g1, S1, r1, p1⟩ => ?_
  split at p1
  · rename_i d e
    obtain ⟨v1, v2, rfl, h1, h2⟩ := paired2 r1
    exact ⟨v1, v2, rfl, p1 _ G1 φ1 H1 Gr.refl ((S1.store h1 (hx0.ne i)).store h2 (hx0.ne j))⟩
  · exact p1.elim
/-- xs[i] = e (a list) -/
def fSetItem (d o i : D) (s : DS) : Option DS := match o, i with
  | .ref n, .p (.int k) => match s.cells[n]? with
    | some (.lst l) => match ixN l.length k with
      | some j => some { s with cells := s.cells.set n (.lst (l.set j d)) }
      | none => none
    | _ => none
  | _, _ => none
def sSetItem (me mo mi : DS → ER D) : DS → SR := eb me fun d => eb mo fun o => eb mi fun i s => match fSetItem d o i s with
  | some s' => .nx s'
  | none => .no
theorem paired_set {α β : Type} {R : α → β → Prop} {x : α} {y : β} (r : R x y) : ∀ {xs : List α} {ys : List β} (i : Nat), Paired R xs ys → Paired R (xs.set i x) (ys.set i y)
  | _, _, _, .nil => .nil
  | _, _, 0, .cons _ t => .cons r t
  | _, _, i + 1, .cons q t => .cons q (paired_set r i t)
theorem ds_setItem {o i : Expr} {mo mi : DS → ER D} {ps : Pos} (he : DE X c e me) (ho : DE X c o mo) (hi : DE X c i mi)
    (ha : ∀ v, assign (.Subscript o i ps) X.env v = (do
      let ov ← holding [v] (eval o X.env)
      let iv ← holding [v, ov] (eval i X.env)
      standAt ps
      holding [v, ov, iv] (setItem ov iv v)
      release [v, ov, iv] []) := by intro _; rfl) (hs : swapsWithSole [.Subscript o i ps] e pos.line X.env = pure false := by rfl) (hw : swappedStores [.Subscript o i ps] e X.env = pure none := by rfl)
    (h1 : (assignEach [.Subscript o i ps] X.env).map (·.2) = [assign (.Subscript o i ps) X.env] := by rfl) : DSt X c (.Assign [.Subscript o i ps] e pos) (sSetItem me mo mi) := ps_imp (ps_asg he (pg_sub ho hi set_list ha) hs hw h1) fun D σ H h => by
  obtain ⟨G, φ, s, S, p⟩ := h
  refine (eb_bind (rel := RD X.K) S p).mono fun v H1 ⟨G1, φ1, s1, d, g1, S1, r1, p1⟩ => ?_
  refine (eb_bind (rel := RD X.K) S1 p1).mono fun ov H2 ⟨G2, φ2, s2, o, g2, S2, r2, p2⟩ => ?_
  refine (eb_bind (rel := RD X.K) S2 p2).mono fun iv H3 ⟨G3, φ3, s3, k, g3, S3, r3, p3⟩ => ?_
  cases o with
  | p _ => exact p3.elim
  | ref n =>
    cases k with
    | ref _ => exact p3.elim
    | p kd =>
      cases kd with
      | int k =>
        unfold fSetItem at p3
        dsimp only at p3
        cases hc : s3.cells[n]? with
        | none => rw [hc] at p3; exact p3.elim
        | some x =>
          rw [hc] at p3
          cases x with
          | froz _ => exact p3.elim
          | lst l =>
            dsimp only at p3
            cases hj : ixN l.length k with
            | none => rw [hj] at p3; exact p3.elim
            | some j =>
              rw [hj] at p3
              obtain ⟨a, ha1, rfl⟩ := r2.up g3
              cases rp_int r3
              obtain ⟨_, vs, hH, r⟩ := S3.cell n a _ ha1 hc
              refine ⟨a, vs, k, j, rfl, rfl, hH, by rw [paired_length r]; exact hj, ?_⟩
              exact p3 σ G3 φ3 _ Gr.refl (S3.setCell ha1 hc (paired_set ((r1.up g2).up g3) j r))
      | _ => exact p3.elim
end

structure ItOk (K : PySem.W.Frag) (c : DC) (J : It) (G : Hp) (φ : List Addr) (items : List D) : Prop where
  go : ∀ i G1 φ1 s σ H1, i < items.length → Gr G φ G1 φ1 → Sim K c G1 φ1 s σ H1 → J.go i H1
  yld : ∀ i d G1 φ1 s σ H1 x H2, items[i]? = some d → Gr G φ G1 φ1 → Sim K c G1 φ1 s σ H1 → J.yld i H1 x H2 → ∃ G2, Gr G1 φ1 G2 φ1 ∧ Sim K c G2 φ1 s σ H2 ∧ RD K G2 φ1 x d
  stop : ∀ G1 φ1 s σ H1, Gr G φ G1 φ1 → Sim K c G1 φ1 s σ H1 → J.stop items.length H1
def PoI (K : PySem.W.Frag) (c : DC) (o : ER (List D)) (G : Hp) (φ : List Addr) (σ : St) (R : It → Hp → Prop) : Prop :=
  match o with
  | .ok items s' => ∀ J G' φ' H', Gr G φ G' φ' → Sim K c G' φ' s' σ H' → ItOk K c J G' φ' items → R J H'
  | .exc e fs s' => ∀ cls dd G' φ' H', Gr G φ G' φ' → Sim K c G' φ' s' σ H' → XRp K c.cx G' cls dd e fs → c.W cls dd σ H'
  | .no => False
def rdI (K : PySem.W.Frag) (c : DC) (m : DS → ER (List D)) : TI := fun σ H R => ∃ G φ s, Sim K c G φ s σ H ∧ PoI K c (m s) G φ σ R
abbrev DI (X : Cx) (c : DC) (tg iter : Expr) (m : DS → ER (List D)) : Prop := PI X tg iter (rdI X.K c m)
theorem pi_imp {X : Cx} {tg iter : Expr} {t t' : TI} (h : PI X tg iter t) (i : ∀ σ H Q, t' σ H Q → t σ H Q) : PI X tg iter t' := ⟨fun pins s σ H Q I q => h.run pins s σ H Q I (i _ _ _ q)⟩
section
variable {X : Cx} {c : DC} {pos p : Pos} {tg e : Expr} {me : DS → ER D} {n : DS → ER (List D)} {a b : Expr}
theorem itemsI {K : PySem.W.Frag} {G : Hp} {φ : List Addr} {c : DC} {a : Addr} {xs : List V} {ds : List PD} (q : SqL K G a xs) (p : Paired (Rp K G) xs ds) : ItOk K c (Itl K a) G φ (ds.map .p) := by
  have len : xs.length = ds.length := paired_length p
  refine ⟨fun i G1 φ1 s σ H1 hi g S => ?_, fun i d G1 φ1 s σ H1 x H2 hd g S y => ?_, fun G1 φ1 s σ H1 g S => ?_⟩
  · rw [List.length_map] at hi
    have hx : i < xs.length := by omega
    exact ⟨xs, xs[i], S.gh.seq (g.g.seq q), List.getElem?_eq_getElem hx⟩
  · obtain ⟨e, y⟩ := y
    subst e
    have hx := y xs (S.gh.seq (g.g.seq q))
    obtain ⟨u, hu, r⟩ := paired_get (paired_map (R := RD K G φ) (fun _ _ z => z) p) hd
    rw [hx] at hu
    cases hu
    exact ⟨G1, Gr.refl, S, r.up g⟩
  · exact ⟨xs, S.gh.seq (g.g.seq q), by rw [List.length_map]; omega⟩
theorem itemsT {K : PySem.W.Frag} {G : Hp} {φ : List Addr} {c : DC} {a : Addr} {xs : List V} {ds : List PD} (q : SqT K G a xs) (inj : ∀ G1 φ1 s σ H1, Gr G φ G1 φ1 → Sim K c G1 φ1 s σ H1 → True) (p : Paired (Rp K G) xs ds) : ItOk K c (Itt K a) G φ (ds.map .p) := by
  have len : xs.length = ds.length := paired_length p
  refine ⟨fun i G1 φ1 s σ H1 hi g S => ?_, fun i d G1 φ1 s σ H1 x H2 hd g S y => ?_, fun G1 φ1 s σ H1 g S => ?_⟩
  · rw [List.length_map] at hi
    have hx : i < xs.length := by omega
    exact ⟨xs, xs[i], Same.seqT S.gh (Same.seqT g.g q), List.getElem?_eq_getElem hx⟩
  · obtain ⟨e, y⟩ := y
    subst e
    have hx := y xs (Same.seqT S.gh (Same.seqT g.g q))
    obtain ⟨u, hu, r⟩ := paired_get (paired_map (R := RD K G φ) (fun _ _ z => z) p) hd
    rw [hx] at hu
    cases hu
    exact ⟨G1, Gr.refl, S, r.up g⟩
  · exact ⟨xs, Same.seqT S.gh (Same.seqT g.g q), by rw [List.length_map]; omega⟩
/-- for x in a list (it is frozen ahead of the loop) -/
def mItl (m : DS → ER D) : DS → ER (List D) := mb m fun d s => match frz fuel s d with
  | some (.lst l, s') => .ok (l.map .p) s'
  | _ => .no
theorem PoI.of {K : PySem.W.Frag} {G : Hp} {φ : List Addr} {σ : St} {H : Hp} {s : DS} {m : DS → ER D} {k : D → DS → ER (List D)} {R : It → Hp → Prop} (S : Sim K c G φ s σ H) (h : PoI K c (mb m k s) G φ σ R) :
    rd K c (RD K) m σ H (fun v H1 => ∃ G1 φ1 s1 d, Gr G φ G1 φ1 ∧ Sim K c G1 φ1 s1 σ H1 ∧ RD K G1 φ1 v d ∧ PoI K c (k d s1) G1 φ1 σ R) := by
  refine ⟨G, φ, s, S, ?_⟩
  unfold mb at h
  cases e : m s with
  | ok d s' =>
    rw [e] at h
    intro v G' φ' H' g sm' r
    refine ⟨G', φ', s', d, g, sm', r, ?_⟩
    dsimp only at h
    cases e2 : k d s' with
    | ok items s2 => rw [e2] at h; exact fun J G2 φ2 H2 g2 => h J G2 φ2 H2 (g.trans g2)
    | exc x fs s2 => rw [e2] at h; exact fun cls dd G2 φ2 H2 g2 => h cls dd G2 φ2 H2 (g.trans g2)
    | no => rw [e2] at h; exact h
  | exc x fs s' => rw [e] at h; exact h
  | no => rw [e] at h; exact h
theorem di_list (he : DE X c e me) : DI X c tg e (mItl me) := pi_imp (pi_list he) fun σ H R h => by
  obtain ⟨G, φ, s, S, p⟩ := h
  refine (PoI.of S p).mono fun v H1 ⟨G1, φ1, s1, d, g1, S1, r1, p1⟩ => ?_
  cases q : frz fuel s1 d with
  | none => rw [q] at p1; exact p1.elim
  | some z =>
    obtain ⟨x, s2⟩ := z
    rw [q] at p1
    obtain ⟨G2, g2, S2, h2⟩ := frz_ok fuel d S1 q
    have r2 := h2 v r1
    cases x with
    | lst l =>
      cases r2 with
      | @lst a xs _ hq hp => exact ⟨a, rfl, ⟨xs, S2.gh.seq hq⟩, p1 _ G2 φ1 H1 g2 S2 (itemsI hq hp)⟩
    | _ => exact p1.elim
def mItt (m : DS → ER D) : DS → ER (List D) := mb m fun d s => match d with
  | .p (.tup l) => .ok (l.map .p) s
  | _ => .no
theorem di_tup (he : DE X c e me) : DI X c tg e (mItt me) := pi_imp (pi_tup he) fun σ H R h => by
  obtain ⟨G, φ, s, S, p⟩ := h
  refine (PoI.of S p).mono fun v H1 ⟨G1, φ1, s1, d, g1, S1, r1, p1⟩ => ?_
  split at p1
  · rename_i l
    have r' : Rp X.K G1 v (.tup l) := r1
    cases r' with
    | @tup a xs _ hq hp => exact ⟨a, rfl, ⟨xs, Same.seqT S1.gh hq⟩, p1 _ G1 φ1 H1 Gr.refl S1 (itemsT hq (fun _ _ _ _ _ _ _ => trivial) hp)⟩
  · exact p1.elim
/-- range(n), range(a, b) -/
def rng (lo : Int) (k : Nat) : List D := (List.range k).map fun i => .p (.int (lo + (i : Nat)))
theorem rng_len {lo : Int} {k : Nat} : (rng lo k).length = k := by unfold rng; rw [List.length_map, List.length_range]
theorem itemsR {K : PySem.W.Frag} {G : Hp} {φ : List Addr} {c : DC} {lo : Int} {k : Nat} : ItOk K c (Itr lo k) G φ (rng lo k) := by
  refine ⟨fun i G1 φ1 s σ H1 hi g S => by rw [rng_len] at hi; exact hi, fun i d G1 φ1 s σ H1 x H2 hd g S y => ?_, fun G1 φ1 s σ H1 g S => by rw [rng_len]; exact Nat.le_refl _⟩
  obtain ⟨e1, e2⟩ := y
  subst e1 e2
  unfold rng at hd
  rw [List.getElem?_map] at hd
  have hi : i < k := by
    refine Nat.lt_of_not_le fun hle => ?_
    rw [List.getElem?_eq_none (by rw [List.length_range]; exact hle)] at hd
    cases hd
  rw [List.getElem?_range hi] at hd
  cases hd
  exact ⟨G1, Gr.refl, S, .int _⟩
abbrev lim62 (i : Int) : Bool := decide (-(2 ^ 62) ≤ i) && decide (i < 2 ^ 62)
def fRng1 : List D → DS → ER (List D) := fun ds s => match ds with
  | [.p (.int j)] => if lim62 j then .ok (rng 0 j.toNat) s else .no
  | _ => .no
def fRng2 : List D → DS → ER (List D) := fun ds s => match ds with
  | [.p (.int i), .p (.int j)] => if lim62 i && lim62 j then .ok (rng i (j - i).toNat) s else .no
  | _ => .no
theorem PoI.ofA {K : PySem.W.Frag} {G : Hp} {φ : List Addr} {σ : St} {H : Hp} {s : DS} {m : DS → ER (List D)} {k : List D → DS → ER (List D)} {R : It → Hp → Prop} (S : Sim K c G φ s σ H) (h : PoI K c (mb m k s) G φ σ R) :
    rd K c (RDs K) m σ H (fun v H1 => ∃ G1 φ1 s1 d, Gr G φ G1 φ1 ∧ Sim K c G1 φ1 s1 σ H1 ∧ RDs K G1 φ1 v d ∧ PoI K c (k d s1) G1 φ1 σ R) := by
  refine ⟨G, φ, s, S, ?_⟩
  unfold mb at h
  cases e : m s with
  | ok d s' =>
    rw [e] at h
    intro v G' φ' H' g sm' r
    refine ⟨G', φ', s', d, g, sm', r, ?_⟩
    dsimp only at h
    cases e2 : k d s' with
    | ok items s2 => rw [e2] at h; exact fun J G2 φ2 H2 g2 => h J G2 φ2 H2 (g.trans g2)
    | exc x fs s2 => rw [e2] at h; exact fun cls dd G2 φ2 H2 g2 => h cls dd G2 φ2 H2 (g.trans g2)
    | no => rw [e2] at h; exact h
  | exc x fs s' => rw [e] at h; exact h
  | no => rw [e] at h; exact h
theorem di_range1 (ha : DA X c [a] n) (hg : Gl X "range" := by rfl) (hm : X.mg "range" = none := by assumption) (hs : starEach [a] X.env = [(false, eval a X.env)] := by rfl) : DI X c tg (.Call (.Name "range" p) [a] [] pos) (mb n fRng1) := pi_imp (pi_range1 hg hm ha hs) fun σ H R h => by
  obtain ⟨G, φ, s, S, p⟩ := h
  refine (PoI.ofA S p).mono fun vs H1 ⟨G1, φ1, s1, ds, g1, S1, r1, p1⟩ => ?_
  unfold fRng1 at p1
  split at p1
  · rename_i j
    obtain ⟨v, rfl, r⟩ := paired1 r1
    cases rp_int r
    split at p1
    · rename_i hl
      simp only [lim62, Bool.and_eq_true, decide_eq_true_eq] at hl
      exact ⟨j, rfl, hl.1, hl.2, p1 _ G1 φ1 H1 Gr.refl S1 itemsR⟩
    · exact p1.elim
  · exact p1.elim
theorem di_range2 (ha : DA X c [a, b] n) (hg : Gl X "range" := by rfl) (hm : X.mg "range" = none := by assumption) (hs : starEach [a, b] X.env = [(false, eval a X.env), (false, eval b X.env)] := by rfl) (hs2 : starEach [b] X.env = [(false, eval b X.env)] := by rfl) : DI X c tg (.Call (.Name "range" p) [a, b] [] pos) (mb n fRng2) := pi_imp (pi_range2 hg hm ha hs hs2) fun σ H R h => by
  obtain ⟨G, φ, s, S, p⟩ := h
  refine (PoI.ofA S p).mono fun vs H1 ⟨G1, φ1, s1, ds, g1, S1, r1, p1⟩ => ?_
  unfold fRng2 at p1
  split at p1
  · rename_i i j
    obtain ⟨v, u, rfl, ra, rb⟩ := paired2 r1
    cases rp_int ra
    cases rp_int rb
    split at p1
    · rename_i hl
      simp only [lim62, Bool.and_eq_true, decide_eq_true_eq] at hl
      exact ⟨i, j, rfl, ⟨hl.1.1, hl.1.2, hl.2.1, hl.2.2⟩, p1 _ G1 φ1 H1 Gr.refl S1 itemsR⟩
    · exact p1.elim
  · exact p1.elim

def loop (f : D → DS → Option DS) (body : DS → SR) : List D → DS → SR
  | [], s => .nx s
  | d :: r, s => match f d s with
    | none => .no
    | some s1 => match body s1 with
      | .nx s2 => loop f body r s2
      | .ct s2 => loop f body r s2
      | .bk s2 => .nx s2
      | o => o
def sFor (mi : DS → ER (List D)) (f : D → DS → Option DS) (body : DS → SR) : DS → SR := eb mi fun items => loop f body items
theorem ds_for {body : List Stmt} {mi : DS → ER (List D)} {g : TG} {f : D → DS → Option DS} {mbd : DS → SR} (hp : PassesOwn (model X.prog X.w) X.A X.env X.xe) (hi : DI X c tg e mi) (hg : PG X tg g) (hf : DTg X c g f) (hb : DSs X c body mbd) (hc : X.calm = true := by rfl)
    (hs : ∀ x, foldedSetIterable e X.env x = pure x := by intro _; rfl) : DSt X c (.For tg e body [] pos) (sFor mi f mbd) := ps_imp (ps_for hp hc hi hg hb hs) fun D σ H h => by
  obtain ⟨G, φ, s, S, p⟩ := h
  refine ⟨G, φ, s, S, ?_⟩
  unfold sFor eb at p
  cases q : mi s with
  | exc x fs s' => rw [q] at p; exact fun cls dd G' φ' H' g' S' xr => p cls dd σ G' φ' H' g' S' xr
  | no => rw [q] at p; exact p
  | ok items s0 =>
    rw [q] at p
    intro J G0 φ0 H0 g0 S0 hJ
    dsimp only at p
    refine ⟨fun i m σ H => m = items.length - i ∧ i ≤ items.length ∧ ∃ G1 φ1 s1, Gr G0 φ0 G1 φ1 ∧ Sim X.K c G1 φ1 s1 σ H ∧ PoS X.K c (loop f mbd (items.drop i) s1) G1 φ1 D, ⟨items.length, by omega, by omega, G0, φ0, s0, Gr.refl, S0, PoS.up g0 p⟩, ?_⟩
    rintro i m σ1 H1 ⟨rfl, hi, G1, φ1, s1, g1, S1, p1⟩
    by_cases hlt : i < items.length
    · have hd : items.drop i = items[i] :: items.drop (i + 1) := List.drop_eq_getElem_cons hlt
      rw [hd] at p1
      unfold loop at p1
      refine .inr ⟨hJ.go i G1 φ1 s1 σ1 H1 hlt g1 S1, fun σ' H' => i + 1 ≤ items.length ∧ ∃ G2 φ2 s2, Gr G0 φ0 G2 φ2 ∧ Sim X.K c G2 φ2 s2 σ' H' ∧ PoS X.K c (loop f mbd (items.drop (i + 1)) s2) G2 φ2 D, fun σ' H' ⟨h1, h2⟩ => ⟨items.length - (i + 1), by omega, rfl, h1, h2⟩, fun x H2 y => ?_⟩
      obtain ⟨G2, g2, S2, r2⟩ := hJ.yld i items[i] G1 φ1 s1 σ1 H1 x H2 (List.getElem?_eq_getElem hlt) g1 S1 y
      refine hf G2 φ1 s1 σ1 H2 x items[i] _ S2 r2 ?_
      cases q1 : f items[i] s1 with
      | none => rw [q1] at p1; exact p1.elim
      | some s2 =>
        rw [q1] at p1
        dsimp only at p1 ⊢
        intro σ3 G3 φ3 H3 g3 S3
        refine ⟨G3, φ3, s2, S3, ?_⟩
        have g13 : Gr G1 φ1 G3 φ3 := g2.trans g3
        cases q2 : mbd s2 with
        | nx s3 =>
          rw [q2] at p1
          exact fun σ4 G4 φ4 H4 g4 S4 => ⟨hlt, G4, φ4, s3, (g1.trans g13).trans g4, S4, PoS.up (g13.trans g4) p1⟩
        | ct s3 =>
          rw [q2] at p1
          exact fun σ4 G4 φ4 H4 g4 S4 => ⟨hlt, G4, φ4, s3, (g1.trans g13).trans g4, S4, PoS.up (g13.trans g4) p1⟩
        | bk s3 =>
          rw [q2] at p1
          exact fun σ4 G4 φ4 H4 g4 S4 => p1 σ4 G4 φ4 H4 (g13.trans g4) S4
        | rt d s3 =>
          rw [q2] at p1
          exact fun v σ4 G4 φ4 H4 g4 S4 r4 => p1 v σ4 G4 φ4 H4 (g13.trans g4) S4 r4
        | exc x fs s3 =>
          rw [q2] at p1
          exact fun cls dd σ4 G4 φ4 H4 g4 S4 xr => p1 cls dd σ4 G4 φ4 H4 (g13.trans g4) S4 xr
        | no => rw [q2] at p1; exact p1
    · have e : i = items.length := by omega
      subst e
      rw [List.drop_length] at p1
      exact .inl ⟨hJ.stop G1 φ1 s1 σ1 H1 g1 S1, p1 σ1 G1 φ1 H1 Gr.refl S1⟩
end
end DL
namespace DL
open PySem PySem.Spec L2

/-- a block's context: nothing may be raised -/
def DC.blk (c : DC) : DC := { c with hx := none, W := fun _ _ _ _ => False }
section
variable {K : PySem.W.Frag} {c : DC} {G : Hp} {φ : List Addr} {σ : St} {H : Hp} {s : DS}
theorem Sim.toBlk (S : Sim K c G φ s σ H) (hc : Calm c) : Sim K c.blk G φ s σ H := ⟨S.gh, S.rh, S.fr, S.len, S.env, S.clen, fun n a x h1 h2 => by
  have h := S.cell n a x h1 h2
  cases x with
  | lst l => exact h
  | froz d => exact h, S.cR, S.cH, S.nd, fun e fs q => by
  obtain ⟨i, a, cls, d, h1, _⟩ := S.ex e fs q
  rw [hc] at h1
  cases h1⟩
theorem Sim.noEx (S : Sim K c.blk G φ s σ H) : s.ex = none := by
  cases q : s.ex with
  | none => rfl
  | some z =>
    obtain ⟨e, fs⟩ := z
    obtain ⟨i, a, cls, d, h1, _⟩ := S.ex e fs q
    cases h1
theorem Sim.ofBlk (S : Sim K c.blk G φ s σ H) : Sim K c G φ s σ H := ⟨S.gh, S.rh, S.fr, S.len, S.env, S.clen, fun n a x h1 h2 => by
  have h := S.cell n a x h1 h2
  cases x with
  | lst l => exact h
  | froz d => exact h, S.cR, S.cH, S.nd, fun e fs q => by rw [S.noEx] at q; cases q⟩
theorem Sim.reenv (S : Sim K c.blk G φ s σ H) {env0 : List (Option D)} {σ0 : St} (hl : env0.length = σ0.length) (h : ∀ (i : Nat) (d : D), env0[i]? = some (some d) → ∃ v, σ0[i]? = some (some v) ∧ RD K G φ v d) :
    Sim K c.blk G φ { s with env := env0 } σ0 H := ⟨S.gh, S.rh, S.fr, hl, h, S.clen, S.cell, S.cR, S.cH, S.nd, fun e fs q => by
  have q' : s.ex = some (e, fs) := q
  rw [S.noEx] at q'
  cases q'⟩
end
theorem wipe_get (σ : St) (j : Nat) : ∀ vs : List Nat, (wipe σ vs)[j]? = if j ∈ vs ∧ j < σ.length then some none else σ[j]?
  | [] => by rw [if_neg (by simp)]; rfl
  | v :: vs => by
    show ((wipe σ vs).set v none)[j]? = _
    by_cases hv : v = j
    · subst hv
      by_cases hl : v < σ.length
      · rw [List.getElem?_set_self (by rw [wipe_length]; exact hl), if_pos ⟨List.mem_cons_self, hl⟩]
      · rw [List.getElem?_eq_none (by rw [List.length_set, wipe_length]; omega), if_neg (fun h => hl h.2), List.getElem?_eq_none (by omega)]
    · rw [List.getElem?_set_ne hv, wipe_get σ j vs]
      by_cases hm : j ∈ vs ∧ j < σ.length
      · rw [if_pos hm, if_pos ⟨List.mem_cons_of_mem _ hm.1, hm.2⟩]
      · rw [if_neg hm, if_neg]
        rintro ⟨h1, h2⟩
        rcases List.mem_cons.mp h1 with e | h1
        · exact hv e.symm
        · exact hm ⟨h1, h2⟩
theorem wipe_same {σ σ' : St} {vs : List Nat} (hl : σ'.length = σ.length) (h : ∀ j, j ∉ vs → σ'[j]? = (wipe σ vs)[j]?) : wipe σ' vs = wipe σ vs := by
  refine List.ext_getElem? fun j => ?_
  rw [wipe_get σ' j vs]
  by_cases hm : j ∈ vs
  · rw [wipe_get σ j vs]
    by_cases hj : j < σ.length
    · rw [if_pos ⟨hm, by rw [hl]; exact hj⟩, if_pos ⟨hm, hj⟩]
    · rw [if_neg (fun h => hj (hl ▸ h.2)), if_neg (fun h => hj h.2), List.getElem?_eq_none (by omega), List.getElem?_eq_none (by omega)]
  · rw [if_neg (fun h => hm h.1), h j hm]
def wipeE (env : List (Option D)) : List Nat → List (Option D)
  | [] => env
  | v :: vs => (wipeE env vs).set v none
theorem wipeE_length (env : List (Option D)) : ∀ vs : List Nat, (wipeE env vs).length = env.length
  | [] => rfl
  | v :: vs => by unfold wipeE; rw [List.length_set, wipeE_length env vs]
theorem wipeE_get {env : List (Option D)} {j : Nat} {d : D} : ∀ {vs : List Nat}, (wipeE env vs)[j]? = some (some d) → env[j]? = some (some d) ∧ j ∉ vs
  | [], h => ⟨h, by simp⟩
  | v :: vs, h => by
    unfold wipeE at h
    by_cases hv : v = j
    · subst hv
      by_cases hl : v < (wipeE env vs).length
      · rw [List.getElem?_set_self hl] at h; cases h
      · rw [List.getElem?_eq_none (by simpa using hl)] at h; cases h
    · rw [List.getElem?_set_ne hv] at h
      obtain ⟨h1, h2⟩ := wipeE_get h
      exact ⟨h1, by simp only [List.mem_cons, not_or]; exact ⟨fun e => hv e.symm, h2⟩⟩

def DTv (K : PySem.W.Frag) (c : DC) (vs : List Nat) (g : TG) (f : D → DS → Option DS) : Prop := ∀ (G : Hp) (φ : List Addr) (s : DS) (σ : St) (H : Hp) (v : V) (d : D) (Q : St → Hp → Prop), Sim K c G φ s σ H → RD K G φ v d →
  (match f d s with
    | some s' => ∀ σ' G' φ' H', Gr G φ G' φ' → Sim K c G' φ' s' σ' H' → σ'.length = σ.length → (∀ j, j ∉ vs → σ'[j]? = σ[j]?) → Q σ' H'
    | none => False) → g v σ H Q
def DTvs (K : PySem.W.Frag) (c : DC) (vs : List Nat) (g : TGs) (f : List PD → DS → Option DS) : Prop := ∀ (G : Hp) (φ : List Addr) (s : DS) (σ : St) (H : Hp) (xs : List V) (ds : List PD) (Q : St → Hp → Prop), Sim K c G φ s σ H → Paired (Rp K G) xs ds →
  (match f ds s with
    | some s' => ∀ σ' G' φ' H', Gr G φ G' φ' → Sim K c G' φ' s' σ' H' → σ'.length = σ.length → (∀ j, j ∉ vs → σ'[j]? = σ[j]?) → Q σ' H'
    | none => False) → g xs σ H Q
section
variable {K : PySem.W.Frag} {c : DC} {vs : List Nat}
theorem dtv_name {i : Nat} (hc : Calm c) (hi : i ∈ vs := by decide) : DTv K c vs (gName i) (tgName i) := fun G φ s σ H v d Q S r h =>
  h _ G φ H Gr.refl (S.store r (hc.ne i)) (by rw [List.length_set]) fun j hj => List.getElem?_set_ne (show i ≠ j from fun e => hj (e ▸ hi))
theorem dtv_nil : DTvs K c vs gNil tgNil := fun G φ s σ H xs ds Q S r h => by
  cases r with
  | nil => exact ⟨rfl, h σ G φ H Gr.refl S rfl fun _ _ => rfl⟩
  | cons _ _ => exact h.elim
theorem dtv_cons {g : TG} {gs : TGs} {f : D → DS → Option DS} {fs : List PD → DS → Option DS} (h1 : DTv K c vs g f) (h2 : DTvs K c vs gs fs) : DTvs K c vs (gCons g gs) (tgCons f fs) := fun G φ s σ H xs ds Q S r h => by
  cases r with
  | nil => exact h.elim
  | @cons v d xs ds r t =>
    refine ⟨v, xs, rfl, h1 G φ s σ H v (.p d) _ S r ?_⟩
    unfold tgCons at h
    dsimp only at h
    cases q : f (.p d) s with
    | none => rw [q] at h; exact h.elim
    | some s' =>
      rw [q] at h
      dsimp only
      intro σ' G' φ' H' g' S' l1 k1
      refine h2 G' φ' s' σ' H' xs ds Q S' (Rp.ups g'.g ds t) ?_
      dsimp only at h
      cases q2 : fs ds s' with
      | none => rw [q2] at h; exact h.elim
      | some s'' => rw [q2] at h; exact fun σ2 G2 φ2 H2 g2 S2 l2 k2 => h σ2 G2 φ2 H2 (g'.trans g2) S2 (l2.trans l1) fun j hj => (k2 j hj).trans (k1 j hj)
theorem dtv_tup {n : Nat} {gs : TGs} {f : List PD → DS → Option DS} (h : DTvs K c vs gs f) : DTv K c vs (gTup K n gs) (tgTup n f) := fun G φ s σ H v d Q S r hq => by
  cases d with
  | ref _ => exact hq.elim
  | p d =>
    cases d with
    | tup l =>
      unfold tgTup at hq
      dsimp only at hq
      by_cases hl : l.length = n
      · rw [if_pos hl] at hq
        have r' : Rp K G v (.tup l) := r
        cases r' with
        | @tup a xs _ q p => exact ⟨a, xs, rfl, Same.seqT S.gh q, by rw [paired_length p]; exact hl, h G φ s σ H xs l Q S p hq⟩
      · rw [if_neg hl] at hq
        exact hq.elim
    | _ => exact hq.elim
end

abbrev DTs (X : Cx) (c : DC) (ifs : List Expr) (t : DS → ER Bool) : Prop := PTs X ifs (rd X.K c relB t)
def mYes : DS → ER Bool := fun s => .ok true s
theorem dts_nil {X : Cx} {c : DC} : DTs X c [] mYes := ⟨fun pins s σ H Q I h => pts_nil.run pins s σ H Q I (by
  obtain ⟨G, φ, s, S, p⟩ := h
  exact Po.ok p Gr.refl S rfl)⟩
theorem dts_one {X : Cx} {c : DC} {e : Expr} {t : DS → ER Bool} (h : DT X c e t) : DTs X c [e] t := pts_one h
def loopC (n : Nat) (env0 : List (Option D)) (f : D → DS → Option DS) (t : DS → ER Bool) (e : DS → ER D) : List D → DS → Option DS
  | [], s => some s
  | d :: r, s => match f d s with
    | none => none
    | some s1 => match t s1 with
      | .ok true s2 => match e s2 with
        | .ok y s3 => match s3.cells[n]? with
          | some (.lst acc) => if acc.length < line then loopC n env0 f t e r { s3 with env := env0, cells := s3.cells.set n (.lst (acc ++ [y])) } else none
          | _ => none
        | _ => none
      | .ok false s2 => loopC n env0 f t e r { s2 with env := env0 }
      | _ => none
def mLc (mi : DS → ER (List D)) (f : D → DS → Option DS) (t : DS → ER Bool) (e : DS → ER D) (vs : List Nat) : DS → ER D := mb mi fun items s =>
  match loopC s.cells.length (wipeE s.env vs) f t e items { s with env := wipeE s.env vs, cells := s.cells ++ [.lst []] } with
  | some s' => .ok (.ref s.cells.length) { s' with env := s.env }
  | none => .no
section
variable {X : Cx} {c : DC} {pos : Pos} {elt tg iter : Expr} {ifs : List Expr} {scope : Scope} {own : List (Str × Nat)} {mi : DS → ER (List D)} {g : TG} {f : D → DS → Option DS} {t : DS → ER Bool} {me : DS → ER D}
theorem lc_rd (hc0 : Calm c) (hf : DTv X.K c.blk (own.map (·.2)) g f) : ∀ σ H Q, rd X.K c (RD X.K) (mLc mi f t me (own.map (·.2))) σ H Q → tLc (rdI X.K c mi) g (rd X.K c.blk relB t) (rd X.K c.blk (RD X.K) me) (own.map (·.2)) σ H Q := fun σ H Q h => by
  obtain ⟨G, φ, s, S, p⟩ := h
  refine ⟨G, φ, s, S, ?_⟩
  unfold mLc mb at p
  cases q : mi s with
  | exc x fs s' => rw [q] at p; exact p
  | no => rw [q] at p; exact p
  | ok items s0 =>
    rw [q] at p
    dsimp only at p
    intro J G0 φ0 H0 g0 S0 hJ A hA
    obtain ⟨S1, g1⟩ := S0.newCell (vs := []) (l := []) hA .nil
    have hn : (φ0 ++ [A])[s0.cells.length]? = some A := by rw [S0.clen]; exact at_last
    -- the wiped state
    have env0 : ∀ {G' : Hp} {φ' : List Addr}, Gr G0 φ0 G' φ' → ∀ (i : Nat) (d : D), (wipeE s0.env (own.map (·.2)))[i]? = some (some d) → ∃ v, (wipe σ (own.map (·.2)))[i]? = some (some v) ∧ RD X.K G' φ' v d := fun g' i d hd => by
      obtain ⟨h1, h2⟩ := wipeE_get hd
      obtain ⟨v, e1, r⟩ := S0.env i d h1
      refine ⟨v, ?_, r.up g'⟩
      rw [wipe_get, if_neg (fun z => h2 z.1)]
      exact e1
    have len0 : (wipeE s0.env (own.map (·.2))).length = (wipe σ (own.map (·.2))).length := by rw [wipeE_length, wipe_length]; exact S0.len
    have S2 := (S1.toBlk hc0).reenv len0 (env0 g1)
    cases ql : loopC s0.cells.length (wipeE s0.env (own.map (·.2))) f t me items { s0 with env := wipeE s0.env (own.map (·.2)), cells := s0.cells ++ [.lst []] } with
    | none => rw [ql] at p; exact p.elim
    | some sE =>
      rw [ql] at p
      dsimp only at p
      refine ⟨fun i m H => m = items.length - i ∧ i ≤ items.length ∧ ∃ G3 φ3 s3, Gr G0 (φ0 ++ [A]) G3 φ3 ∧ Sim X.K c.blk G3 φ3 s3 (wipe σ (own.map (·.2))) H ∧ s3.env = wipeE s0.env (own.map (·.2)) ∧ loopC s0.cells.length (wipeE s0.env (own.map (·.2))) f t me (items.drop i) s3 = some sE,
        ⟨items.length, by omega, by omega, G0, φ0 ++ [A], _, Gr.refl, S2, rfl, ql⟩, ?_⟩
      rintro i m H1 ⟨rfl, hi, G3, φ3, s3, g3, S3, e3, p3⟩
      have gJ : Gr G0 φ0 G3 φ3 := g1.trans g3
      have at3 : φ3[s0.cells.length]? = some A := g3.at hn
      -- the state again with the outer slots
      have S3' : Sim X.K c G3 φ3 { s3 with env := s0.env } σ H1 := (S3.reenv S0.len fun i d hd => by
        obtain ⟨v, e1, r⟩ := S0.env i d hd
        exact ⟨v, e1, r.up gJ⟩).ofBlk
      by_cases hlt : i < items.length
      · have hd : items.drop i = items[i] :: items.drop (i + 1) := List.drop_eq_getElem_cons hlt
        rw [hd] at p3
        unfold loopC at p3
        refine .inr ⟨hJ.go i G3 φ3 _ σ H1 hlt gJ S3', fun H' => i + 1 ≤ items.length ∧ ∃ G4 φ4 s4, Gr G0 (φ0 ++ [A]) G4 φ4 ∧ Sim X.K c.blk G4 φ4 s4 (wipe σ (own.map (·.2))) H' ∧ s4.env = wipeE s0.env (own.map (·.2)) ∧ loopC s0.cells.length (wipeE s0.env (own.map (·.2))) f t me (items.drop (i + 1)) s4 = some sE,
          fun H' ⟨h1, h2⟩ => ⟨items.length - (i + 1), by omega, rfl, h1, h2⟩, fun x H2 y => ?_⟩
        obtain ⟨G4, g4, S4', r4⟩ := hJ.yld i items[i] G3 φ3 _ σ H1 x H2 (List.getElem?_eq_getElem hlt) gJ S3' y
        have S4 : Sim X.K c.blk G4 φ3 s3 (wipe σ (own.map (·.2))) H2 := by
          have z := (S4'.toBlk hc0).reenv (σ0 := wipe σ (own.map (·.2))) (env0 := s3.env) (by rw [e3]; exact len0) (fun i d hd => by rw [e3] at hd; exact env0 (gJ.trans g4) i d hd)
          exact z
        refine hf G4 φ3 s3 (wipe σ (own.map (·.2))) H2 x items[i] _ S4 r4 ?_
        cases q1 : f items[i] s3 with
        | none => rw [q1] at p3; cases p3
        | some s5 =>
          rw [q1] at p3
          dsimp only at p3 ⊢
          intro σ5 G5 φ5 H5 g5 S5 l5 k5
          refine ⟨wipe_same (by rw [l5, wipe_length]) k5, G5, φ5, s5, S5, ?_⟩
          have g35 : Gr G3 φ3 G5 φ5 := g4.trans g5
          cases q2 : t s5 with
          | exc x fs s6 => rw [q2] at p3; cases p3
          | no => rw [q2] at p3; cases p3
          | ok b s6 =>
            rw [q2] at p3
            intro b' G6 φ6 H6 g6 S6 rb
            have rb' : b' = b := rb
            subst rb'
            have g06 : Gr G0 (φ0 ++ [A]) G6 φ6 := (g3.trans g35).trans g6
            cases b' with
            | false =>
              refine iteF ⟨hlt, G6, φ6, { s6 with env := wipeE s0.env (own.map (·.2)) }, g06, S6.reenv len0 (env0 (g1.trans g06)), rfl, p3⟩
            | true =>
              refine iteT ⟨G6, φ6, s6, S6, ?_⟩
              dsimp only at p3
              cases q3 : me s6 with
              | exc x fs s7 => rw [q3] at p3; cases p3
              | no => rw [q3] at p3; cases p3
              | ok y s7 =>
                rw [q3] at p3
                intro yv G7 φ7 H7 g7 S7 r7
                have g07 : Gr G0 (φ0 ++ [A]) G7 φ7 := g06.trans g7
                have at7 : φ7[s0.cells.length]? = some A := g07.at hn
                dsimp only at p3
                cases q4 : s7.cells[s0.cells.length]? with
                | none => rw [q4] at p3; cases p3
                | some ce =>
                  rw [q4] at p3
                  cases ce with
                  | froz d => cases p3
                  | lst acc =>
                    dsimp only at p3
                    by_cases hl : acc.length < line
                    · rw [if_pos hl] at p3
                      obtain ⟨_, avs, hH, ra⟩ := S7.cell _ A _ at7 q4
                      refine ⟨avs, hH, by rw [line_eq, paired_length ra]; exact hl, hlt, G7, φ7, _, g07, (S7.setCell at7 q4 (paired_append ra (.cons r7 .nil))).reenv len0 (env0 (g1.trans g07)), rfl, p3⟩
                    · rw [if_neg hl] at p3
                      cases p3
      · have e : i = items.length := by omega
        subst e
        rw [List.drop_length] at p3
        have e4 : s3 = sE := Option.some.inj p3
        subst e4
        exact .inl ⟨hJ.stop G3 φ3 _ σ H1 gJ S3', p (.ref A) G3 φ3 H1 (g0.trans gJ) S3' ⟨A, at3, rfl⟩⟩
theorem de_lc {vs : List Nat} (hc0 : Calm c) (hN : X.N.Nodup) (hi : DI X c tg iter mi) (ok : BlkOk X.N X.env.scope scope own)
    (hg : ∀ (s : Shared) (H : Hp) (C : Addr) (cl : List (Str × Addr)) (fp : List Addr), PG (X.blk s H scope (compEnvC scope cl C X.env) fp) tg g) (hf : DTv X.K c.blk vs g f)
    (ht : ∀ (s : Shared) (H : Hp) (C : Addr) (cl : List (Str × Addr)) (fp : List Addr), DTs (X.blk s H scope (compEnvC scope cl C X.env) fp) c.blk ifs t)
    (he : ∀ (s : Shared) (H : Hp) (C : Addr) (cl : List (Str × Addr)) (fp : List Addr), DE (X.blk s H scope (compEnvC scope cl C X.env) fp) c.blk elt me) (hv : own.map (·.2) = vs := by rfl) (hc : X.calm = true := by rfl) (hs : ∀ x, foldedSetIterable iter X.env x = pure x := by intro _; rfl) :
    DE X c (.ListComp elt [⟨tg, iter, ifs, 0⟩] scope pos) (mLc mi f t me vs) := by
  subst hv
  exact pe_imp (pe_lc hc hN hi ok hg ht he hs) (lc_rd hc0 hf)
/-- y = [..] -/
theorem ds_setLc {i : Nat} {y : Str} {py spos : Pos} {vs : List Nat} (hc0 : Calm c) (hN : X.N.Nodup) (hi : DI X c tg iter mi) (ok : BlkOk X.N X.env.scope scope own)
    (hg : ∀ (s : Shared) (H : Hp) (C : Addr) (cl : List (Str × Addr)) (fp : List Addr), PG (X.blk s H scope (compEnvC scope cl C X.env) fp) tg g) (hf : DTv X.K c.blk vs g f)
    (ht : ∀ (s : Shared) (H : Hp) (C : Addr) (cl : List (Str × Addr)) (fp : List Addr), DTs (X.blk s H scope (compEnvC scope cl C X.env) fp) c.blk ifs t)
    (he : ∀ (s : Shared) (H : Hp) (C : Addr) (cl : List (Str × Addr)) (fp : List Addr), DE (X.blk s H scope (compEnvC scope cl C X.env) fp) c.blk elt me) (hsw : swapsWith (.ListComp elt [⟨tg, iter, ifs, 0⟩] scope pos) (some (.Name y py)) spos.line X.env = pure true)
    (hv : own.map (·.2) = vs := by rfl) (hc : X.calm = true := by rfl) (hy : X.N[i]? = some y := by rfl) (hyl : X.env.scope.names.lookup y = some .local := by rfl) (hs : ∀ x, foldedSetIterable iter X.env x = pure x := by intro _; rfl) :
    DSt X c (.Assign [.Name y py] (.ListComp elt [⟨tg, iter, ifs, 0⟩] scope pos) spos) (sSet i (mLc mi f t me vs)) := by
  subst hv
  have base := ps_setLc (tt := rd X.K c.blk relB t) (te := rd X.K c.blk (RD X.K) me) hc hN hy hyl hsw hi ok hg ht he hs
  refine ps_imp base fun D σ H h => ?_
  refine lc_rd (t := t) (me := me) hc0 hf σ H _ ?_
  obtain ⟨G, φ, s, S, p⟩ := h
  refine (eb_bind (rel := RD X.K) S p).mono fun v H1 ⟨G1, φ1, s1, d, g1, S1, r1, p1⟩ => ?_
  exact p1 _ G1 φ1 H1 Gr.refl (S1.store r1 (hc0.ne i))
end
end DL
namespace DL
open PySem PySem.Spec L2

/-- how arguments come: plain data, or a list that the def may change (true) -/
inductive RArgs (K : PySem.W.Frag) (G H : Hp) : List Bool → List V → List PD → List (List PD) → List Addr → Prop
  | nil : RArgs K G H [] [] [] [] []
  | p {v : V} {d : PD} {ms : List Bool} {vs : List V} {ds : List PD} {cs : List (List PD)} {as : List Addr} : Rp K G v d → RArgs K G H ms vs ds cs as → RArgs K G H (false :: ms) (v :: vs) (d :: ds) cs as
  | m {a : Addr} {xs : List V} {l : List PD} {ms : List Bool} {vs : List V} {ds : List PD} {cs : List (List PD)} {as : List Addr} : H a = some (.lst xs) → Paired (Rp K G) xs l → RArgs K G H ms vs ds cs as → RArgs K G H (true :: ms) (.ref a :: vs) ds (l :: cs) (a :: as)
theorem RArgs.length {K : PySem.W.Frag} {G H : Hp} {ms : List Bool} {vs : List V} {ds : List PD} {cs : List (List PD)} {as : List Addr} (h : RArgs K G H ms vs ds cs as) : vs.length = ms.length := by
  induction h with
  | nil => rfl
  | p _ _ ih => simp [ih]
  | m _ _ _ ih => simp [ih]
theorem RArgs.clen {K : PySem.W.Frag} {G H : Hp} {ms : List Bool} {vs : List V} {ds : List PD} {cs : List (List PD)} {as : List Addr} (h : RArgs K G H ms vs ds cs as) : cs.length = as.length := by
  induction h with
  | nil => rfl
  | p _ _ ih => exact ih
  | m _ _ _ ih => simp [ih]

/-- what a call leaves -/
structure Aft (K : PySem.W.Frag) (G H : Hp) (as : List Addr) (cs' : List (List PD)) (G' H' : Hp) : Prop where
  g : Same G G'
  gh : Same G' H'
  keep : ∀ b o, b ∉ as → H b = some o → H' b = some o
  fresh : ∀ b, G' b ≠ none → H b ≠ none → G b ≠ none
  cells : Paired (fun a l => G' a = none ∧ ∃ xs, H' a = some (.lst xs) ∧ Paired (Rp K G') xs l) as cs'
/-- a def's outcome: plain data, a new list that the caller may change, an exception -/
inductive FR where
  | ok (d : PD) (cs : List (List PD))
  | new (l : List PD) (cs : List (List PD))
  | exc (c : Nat) (fs : Fields) (cs : List (List PD))
  | no
abbrev Fn := List PD → List (List PD) → FR
def PoF (K : PySem.W.Frag) (cx : Nat → Addr) (G H : Hp) (as : List Addr) (o : FR) (Q : VK) (E : XK) : Prop :=
  match o with
  | .ok d cs' => ∀ v G' H', Aft K G H as cs' G' H' → Rp K G' v d → Q v H'
  | .new l cs' => ∀ a xs G' H', Aft K G H as cs' G' H' → H' a = some (.lst xs) → Paired (Rp K G') xs l → G' a = none → H a = none → Q (.ref a) H'
  | .exc e fs cs' => ∀ cls dd G' H', Aft K G H as cs' G' H' → XRp K cx G' cls dd e fs → E cls dd H'
  | .no => False
/-- the promise of a def -/
def spD (K : PySem.W.Frag) (cx : Nat → Addr) (ms : List Bool) (f : Fn) : Sp := fun vs H Q E => ∃ G ds cs as, Same G H ∧ RArgs K G H ms vs ds cs as ∧ as.Nodup ∧ (∀ a ∈ as, G a = none) ∧ PoF K cx G H as (f ds cs) Q E

def pds : List D → Option (List PD)
  | [] => some []
  | .p d :: ds => (pds ds).map fun xs => d :: xs
  | .ref _ :: _ => none
def cont (s : DS) : List Nat → Option (List (List PD))
  | [] => some []
  | n :: ns => match s.cells[n]? with
    | some (.lst l) => (pds l).bind fun x => (cont s ns).map fun xs => x :: xs
    | _ => none
def passArgs : List Bool → List D → DS → Option (List PD × List Nat × DS)
  | [], [], s => some ([], [], s)
  | false :: ms, d :: ds, s => match frz fuel s d with
    | some (x, s') => match passArgs ms ds s' with
      | some (xs, ns, s'') => some (x :: xs, ns, s'')
      | none => none
    | none => none
  | true :: ms, .ref n :: ds, s => match passArgs ms ds s with
    | some (xs, ns, s') => some (xs, n :: ns, s')
    | none => none
  | _, _, _ => none
def setCells : List Nat → List (List PD) → List Cell → List Cell
  | n :: ns, c :: cs, l => setCells ns cs (l.set n (.lst (c.map .p)))
  | _, _, l => l
def nodupB : List Nat → Bool
  | [] => true
  | n :: ns => !(ns.contains n) && nodupB ns
def callR (s : DS) (ns : List Nat) : FR → ER D
  | .ok d cs' => .ok (.p d) { s with cells := setCells ns cs' s.cells }
  | .new l cs' => .ok (.ref s.cells.length) { s with cells := setCells ns cs' s.cells ++ [.lst (l.map .p)] }
  | .exc e fs cs' => .exc e fs { s with cells := setCells ns cs' s.cells }
  | .no => .no
def callF (ms : List Bool) (f : Fn) : List D → DS → ER D := fun ds s => match passArgs ms ds s with
  | some (xs, ns, s') => if nodupB ns then match cont s' ns with
      | some cs => callR s' ns (f xs cs)
      | none => .no
    else .no
  | none => .no
inductive RPre (K : PySem.W.Frag) (G : Hp) (φ : List Addr) : List Bool → List V → List PD → List Nat → Prop
  | nil : RPre K G φ [] [] [] []
  | p {v : V} {d : PD} {ms : List Bool} {vs : List V} {ds : List PD} {ns : List Nat} : Rp K G v d → RPre K G φ ms vs ds ns → RPre K G φ (false :: ms) (v :: vs) (d :: ds) ns
  | m {a : Addr} {n : Nat} {ms : List Bool} {vs : List V} {ds : List PD} {ns : List Nat} : φ[n]? = some a → RPre K G φ ms vs ds ns → RPre K G φ (true :: ms) (.ref a :: vs) ds (n :: ns)
theorem pds_ok {K : PySem.W.Frag} {G : Hp} {φ : List Addr} : ∀ {l : List D} {xs : List V} {ds : List PD}, RDs K G φ xs l → pds l = some ds → Paired (Rp K G) xs ds
  | [], _, _, .nil, e => by cases Option.some.inj e; exact .nil
  | .p d :: l, _, _, .cons r t, e => by
    obtain ⟨ds, e1, e2⟩ := Option.map_eq_some_iff.mp e
    subst e2
    exact .cons r (pds_ok t e1)
  | .ref _ :: l, _, _, .cons r t, e => by cases e
section
variable {K : PySem.W.Frag} {c : DC} {φ : List Addr} {σ : St} {H : Hp}
theorem passArgs_ok : ∀ (ms : List Bool) (ds : List D) {vs : List V} {G : Hp} {s s' : DS} {xs : List PD} {ns : List Nat}, Sim K c G φ s σ H → RDs K G φ vs ds → passArgs ms ds s = some (xs, ns, s') → ∃ G', Gr G φ G' φ ∧ Sim K c G' φ s' σ H ∧ RPre K G' φ ms vs xs ns := by
  intro ms
  induction ms with
  | nil =>
    intro ds vs G s s' xs ns S r e
    cases ds with
    | nil =>
      cases r
      cases (Option.some.inj e)
      exact ⟨G, Gr.refl, S, .nil⟩
    | cons d ds => cases e
  | cons b ms ih =>
    intro ds vs G s s' xs ns S r e
    have upR : ∀ {G1 G2 : Hp} {ms : List Bool} {vs : List V} {xs : List PD} {ns : List Nat}, Gr G1 φ G2 φ → RPre K G1 φ ms vs xs ns → RPre K G2 φ ms vs xs ns := fun {G1 G2 ms vs xs ns} g h => by
      induction h with
      | nil => exact .nil
      | p r _ ih => exact .p (Rp.up g.g _ r) ih
      | m e _ ih => exact .m e ih
    cases r with
    | nil => cases b <;> cases e
    | @cons v d vs ds r t =>
      cases b with
      | false =>
        unfold passArgs at e
        cases q : frz fuel s d with
        | none => rw [q] at e; cases e
        | some z =>
          obtain ⟨x, s1⟩ := z
          rw [q] at e
          dsimp only at e
          obtain ⟨G1, g1, S1, h1⟩ := frz_ok fuel d S q
          cases q2 : passArgs ms ds s1 with
          | none => rw [q2] at e; cases e
          | some z2 =>
            obtain ⟨ys, ns2, s2⟩ := z2
            rw [q2] at e
            cases (Option.some.inj e)
            obtain ⟨G2, g2, S2, h2⟩ := ih ds S1 (RDs.up g1 t) q2
            exact ⟨G2, g1.trans g2, S2, .p (Rp.up g2.g x (h1 _ r)) h2⟩
      | true =>
        cases d with
        | p _ => cases e
        | ref n =>
          unfold passArgs at e
          cases q2 : passArgs ms ds s with
          | none => rw [q2] at e; cases e
          | some z2 =>
            obtain ⟨ys, ns2, s2⟩ := z2
            rw [q2] at e
            cases (Option.some.inj e)
            obtain ⟨G2, g2, S2, h2⟩ := ih ds S t q2
            obtain ⟨a, ha, rfl⟩ := r
            exact ⟨G2, g2, S2, .m ha h2⟩
theorem pre_args {G : Hp} {s : DS} (S : Sim K c G φ s σ H) : ∀ {ms : List Bool} {vs : List V} {ds : List PD} {ns : List Nat} {cs : List (List PD)}, RPre K G φ ms vs ds ns → cont s ns = some cs →
    ∃ as, RArgs K G H ms vs ds cs as ∧ Paired (fun a n => φ[n]? = some a) as ns ∧ (∀ a ∈ as, G a = none) := by
  intro ms vs ds ns cs h
  induction h generalizing cs with
  | nil =>
    intro e
    cases (Option.some.inj e)
    exact ⟨[], .nil, .nil, fun a h => by cases h⟩
  | p r _ ih =>
    intro e
    obtain ⟨as, h1, h2, h3⟩ := ih e
    exact ⟨as, .p r h1, h2, h3⟩
  | @m a n ms vs ds ns ha _ ih =>
    intro e
    unfold cont at e
    cases q : s.cells[n]? with
    | none => rw [q] at e; cases e
    | some x =>
      rw [q] at e
      cases x with
      | froz _ => cases e
      | lst l =>
        dsimp only at e
        obtain ⟨x, e1, e2⟩ := Option.bind_eq_some_iff.mp e
        obtain ⟨xs, e3, e4⟩ := Option.map_eq_some_iff.mp e2
        subst e4
        obtain ⟨as, h1, h2, h3⟩ := ih e3
        obtain ⟨hG, vs', hH, r⟩ := S.cell n a _ ha q
        refine ⟨a :: as, .m hH (pds_ok r e1) h1, .cons ha h2, fun b hb => ?_⟩
        rcases List.mem_cons.mp hb with e | hb
        · rw [e]; exact hG
        · exact h3 b hb
theorem nodupB_ok : ∀ {ns : List Nat}, nodupB ns = true → ns.Nodup
  | [], _ => .nil
  | n :: ns, h => by
    unfold nodupB at h
    rw [Bool.and_eq_true] at h
    refine List.nodup_cons.mpr ⟨fun hm => ?_, nodupB_ok h.2⟩
    have : ns.contains n = true := List.contains_iff_mem.mpr hm
    rw [this] at h
    exact absurd h.1 (by decide)
theorem nodup_at {φ : List Addr} (hφ : φ.Nodup) {n m : Nat} {a : Addr} (h1 : φ[n]? = some a) (h2 : φ[m]? = some a) : n = m := by
  obtain ⟨l1, e1⟩ := List.getElem?_eq_some_iff.mp h1
  obtain ⟨l2, e2⟩ := List.getElem?_eq_some_iff.mp h2
  exact (List.getElem_inj hφ).mp (e1.trans e2.symm)
theorem as_nodup (hφ : φ.Nodup) : ∀ {as : List Addr} {ns : List Nat}, Paired (fun a n => φ[n]? = some a) as ns → ns.Nodup → as.Nodup
  | _, _, .nil, _ => .nil
  | _, _, @Paired.cons _ _ _ a n as ns r t, h => by
    obtain ⟨h1, h2⟩ := List.nodup_cons.mp h
    refine List.nodup_cons.mpr ⟨fun hm => ?_, as_nodup hφ t h2⟩
    have : ∀ {as : List Addr} {ns : List Nat}, Paired (fun a n => φ[n]? = some a) as ns → a ∈ as → n ∈ ns := by
      intro as ns p
      induction p with
      | nil => intro h; cases h
      | cons r' _ ih =>
        intro h
        rcases List.mem_cons.mp h with e | h
        · subst e
          rw [nodup_at hφ r r']
          exact List.mem_cons_self
        · exact List.mem_cons_of_mem _ (ih h)
    exact h1 (this t hm)
theorem as_mem : ∀ {as : List Addr} {ns : List Nat}, Paired (fun a n => φ[n]? = some a) as ns → ∀ a ∈ as, ∃ n ∈ ns, φ[n]? = some a
  | _, _, .nil, _, h => by cases h
  | _, _, .cons r t, a, h => by
    rcases List.mem_cons.mp h with e | h
    · subst e; exact ⟨_, List.mem_cons_self, r⟩
    · obtain ⟨n, h1, h2⟩ := as_mem t a h
      exact ⟨n, List.mem_cons_of_mem _ h1, h2⟩
theorem setCells_len : ∀ (ns : List Nat) (cs : List (List PD)) (l : List Cell), (setCells ns cs l).length = l.length
  | [], _, _ => rfl
  | _ :: _, [], _ => rfl
  | n :: ns, c :: cs, l => by unfold setCells; rw [setCells_len ns cs, List.length_set]
theorem setCells_out : ∀ (ns : List Nat) (cs : List (List PD)) (l : List Cell) {k : Nat}, k ∉ ns → (setCells ns cs l)[k]? = l[k]?
  | [], _, _, _, _ => rfl
  | _ :: _, [], _, _, _ => rfl
  | n :: ns, c :: cs, l, k, h => by
    unfold setCells
    rw [setCells_out ns cs _ (fun z => h (List.mem_cons_of_mem _ z)), List.getElem?_set_ne (fun z => h (by rw [z]; exact List.mem_cons_self))]
/-- what stands at a place that was written -/
theorem setCells_in {P : Addr → List PD → Prop} : ∀ {as : List Addr} {ns : List Nat} {cs : List (List PD)}, Paired (fun a n => φ[n]? = some a) as ns → ns.Nodup → Paired P as cs → ∀ {k : Nat} {a : Addr} {l : List Cell}, k ∈ ns → φ[k]? = some a → k < l.length → ∃ x, (setCells ns cs l)[k]? = some (.lst (x.map .p)) ∧ P a x
  | _, _, _, .nil, _, _, _, _, _, hm, _, _ => by cases hm
  | _, _, _, @Paired.cons _ _ _ a0 n as ns r t, hn, .cons (b := c) p q, k, a, l, hm, ha, hl => by
    obtain ⟨h1, h2⟩ := List.nodup_cons.mp hn
    unfold setCells
    by_cases hk : k = n
    · subst hk
      rw [setCells_out _ _ _ h1, List.getElem?_set_self hl]
      rw [r] at ha
      cases ha
      exact ⟨c, rfl, p⟩
    · have hm' : k ∈ ns := by
        rcases List.mem_cons.mp hm with e | hm
        · exact absurd e hk
        · exact hm
      exact setCells_in t h2 q hm' ha (by rw [List.length_set]; exact hl)
/-- the caller's state behind the call -/
theorem Sim.after {G G' H' : Hp} {s : DS} {as : List Addr} {ns : List Nat} {cs' : List (List PD)} (S : Sim K c G φ s σ H) (hp : Paired (fun a n => φ[n]? = some a) as ns) (hn : ns.Nodup) (A : Aft K G H as cs' G' H') :
    Sim K c G' φ { s with cells := setCells ns cs' s.cells } σ H' ∧ Gr G φ G' φ := by
  have gg : Gr G φ G' φ := ⟨A.g, [], by simp⟩
  have inφ : ∀ a ∈ as, a ∈ φ := fun a ha => by
    obtain ⟨n, _, e⟩ := as_mem hp a ha
    exact List.mem_of_getElem? e
  have fresh : ∀ a ∈ φ, G a = none → G' a = none := fun a ha h => by
    cases q : G' a with
    | none => rfl
    | some o => exact absurd h (A.fresh a (by rw [q]; simp) (S.cH a ha))
  refine ⟨⟨A.gh, fun b o e => A.keep b o (fun hb => ?_) (S.rh b o e), fun a h1 h2 => S.fr a (A.fresh a h1 ?_) h2, S.len, fun i d e => ?_, ?_, fun n a x h1 h2 => ?_, S.cR, fun a ha => ?_, S.nd, fun e fs q => ?_⟩, gg⟩
  · rw [S.cR b (inφ b hb)] at e; cases e
  · cases q : c.R a with
    | none => exact absurd q h2
    | some o => rw [S.rh a o q]; simp
  · obtain ⟨v, e1, r⟩ := S.env i d e
    exact ⟨v, e1, r.up gg⟩
  · show (setCells ns cs' s.cells).length = φ.length
    rw [setCells_len]; exact S.clen
  · have h2' : (setCells ns cs' s.cells)[n]? = some x := h2
    have hlt : n < s.cells.length := by rw [S.clen]; exact (List.getElem?_eq_some_iff.mp h1).1
    by_cases hm : n ∈ ns
    · obtain ⟨y, e1, e2, xs, e3, e4⟩ := setCells_in hp hn A.cells hm h1 hlt
      rw [e1] at h2'
      cases (Option.some.inj h2')
      exact ⟨e2, xs, e3, paired_map (fun _ _ z => z) e4⟩
    · rw [setCells_out _ _ _ hm] at h2'
      have ok := S.cell n a x h1 h2'
      have ha : a ∈ φ := List.mem_of_getElem? h1
      have hna : a ∉ as := fun h => by
        obtain ⟨m, h3, h4⟩ := as_mem hp a h
        rw [nodup_at S.nd h1 h4] at hm
        exact hm h3
      cases x with
      | lst l =>
        obtain ⟨hG, vs, hH, r⟩ := ok
        exact ⟨fresh a ha hG, vs, A.keep a _ hna hH, RDs.up gg r⟩
      | froz d => exact Rp.up gg.g d ok
  · by_cases hm : a ∈ as
    · have : ∀ {as : List Addr} {cs : List (List PD)}, Paired (fun a l => G' a = none ∧ ∃ xs, H' a = some (.lst xs) ∧ Paired (Rp K G') xs l) as cs → a ∈ as → H' a ≠ none := by
        intro as cs p
        induction p with
        | nil => intro h; cases h
        | cons r _ ih =>
          intro h
          rcases List.mem_cons.mp h with e | h
          · subst e
            obtain ⟨_, xs, h, _⟩ := r
            rw [h]; simp
          · exact ih h
      exact this A.cells hm
    · cases q : H a with
      | none => exact absurd q (S.cH a ha)
      | some o => rw [A.keep a o hm q]; simp
  · obtain ⟨i, a, cls, d, h1, h2, h3⟩ := S.ex e fs q
    exact ⟨i, a, cls, d, h1, h2, h3.up A.g⟩
/-- a call: from the D-outcome to the promise -/
theorem call_sp {G : Hp} {s : DS} {ms : List Bool} {f : Fn} {vs : List V} {ds : List D} {Q : VK} (S : Sim K c G φ s σ H) (r : RDs K G φ vs ds) (p : Po K c (RD K) (callF ms f ds s) G φ σ Q) : spD K c.cx ms f vs H Q (WE c.W σ) := by
  unfold callF at p
  cases q : passArgs ms ds s with
  | none => rw [q] at p; exact p.elim
  | some z =>
    obtain ⟨xs, ns, s'⟩ := z
    rw [q] at p
    dsimp only at p
    obtain ⟨G1, g1, S1, h1⟩ := passArgs_ok ms ds S r q
    by_cases hn : nodupB ns = true
    · rw [if_pos hn] at p
      have hn' := nodupB_ok hn
      cases q2 : cont s' ns with
      | none => rw [q2] at p; exact p.elim
      | some cs =>
        rw [q2] at p
        obtain ⟨as, h2, h3, h4⟩ := pre_args S1 h1 q2
        refine ⟨G1, xs, cs, as, S1.gh, h2, as_nodup S1.nd h3 hn', h4, ?_⟩
        dsimp only at p
        cases q3 : f xs cs with
        | ok d cs' =>
          rw [q3] at p
          intro v G' H' A rv
          obtain ⟨S2, g2⟩ := S1.after h3 hn' A
          exact Po.ok p (g1.trans g2) S2 rv
        | new l cs' =>
          rw [q3] at p
          intro a ys G' H' A hH rl hG hHn
          obtain ⟨S2, g2⟩ := S1.after h3 hn' A
          -- the new list becomes a cell
          have hcl : (setCells ns cs' s'.cells).length = s'.cells.length := setCells_len ..
          have hna : a ∉ φ := fun hm => S1.cH a hm hHn
          have hR : c.R a = none := by
            cases e : c.R a with
            | none => rfl
            | some o => rw [S1.rh a o e] at hHn; cases hHn
          have gg : Gr G' φ G' (φ ++ [a]) := ⟨Same.refl _, [a], rfl⟩
          have S3 : Sim K c G' (φ ++ [a]) { s' with cells := setCells ns cs' s'.cells ++ [.lst (l.map .p)] } σ H' := by
            refine ⟨S2.gh, S2.rh, S2.fr, S2.len, fun i d e => ?_, by rw [List.length_append, List.length_append]; exact congrArg (· + 1) S2.clen, fun n b x e1 e2 => ?_, fun b hb => ?_, fun b hb => ?_, ?_, S2.ex⟩
            · obtain ⟨v, e1, r⟩ := S2.env i d e
              exact ⟨v, e1, r.up gg⟩
            · have e2' : (setCells ns cs' s'.cells ++ [Cell.lst (l.map .p)])[n]? = some x := e2
              by_cases hlt : n < φ.length
              · rw [List.getElem?_append_left hlt] at e1
                rw [List.getElem?_append_left (by rw [hcl, S1.clen]; exact hlt)] at e2'
                have ok := S2.cell n b x e1 e2'
                cases x with
                | lst l2 =>
                  obtain ⟨g0, vs', hh, r'⟩ := ok
                  exact ⟨g0, vs', hh, RDs.up gg r'⟩
                | froz d => exact ok
              · have hn2 : n = φ.length := by
                  have := (List.getElem?_eq_some_iff.mp e1).1
                  rw [List.length_append, List.length_singleton] at this
                  omega
                subst hn2
                rw [List.getElem?_append_right (Nat.le_refl _), Nat.sub_self] at e1
                rw [List.getElem?_append_right (by rw [hcl, S1.clen]; exact Nat.le_refl _), hcl, S1.clen, Nat.sub_self] at e2'
                have e1' : a = b := by simpa using e1
                have e2'' : Cell.lst (l.map .p) = x := by simpa using e2'
                subst e1' e2''
                exact ⟨hG, ys, hH, RDs.up gg (paired_map (fun _ _ z => z) rl)⟩
            · rcases List.mem_append.mp hb with hb | hb
              · exact S2.cR b hb
              · have : b = a := by simpa using hb
                rw [this]; exact hR
            · rcases List.mem_append.mp hb with hb | hb
              · exact S2.cH b hb
              · have : b = a := by simpa using hb
                rw [this, hH]; simp
            · rw [List.nodup_append]
              refine ⟨S2.nd, by simp, fun x hx y hy => ?_⟩
              have : y = a := by simpa using hy
              subst this
              exact fun z => hna (z ▸ hx)
          refine Po.ok p ((g1.trans g2).trans gg) S3 ⟨a, ?_, rfl⟩
          rw [S1.clen]
          exact at_last
        | exc e fs cs' =>
          rw [q3] at p
          intro cls dd G' H' A xr
          obtain ⟨S2, g2⟩ := S1.after h3 hn' A
          exact p cls dd G' φ H' (g1.trans g2) S2 xr
        | no => rw [q3] at p; exact p.elim
    · rw [if_neg hn] at p
      exact p.elim
end
def mCall (ms : List Bool) (f : Fn) (n : DS → ER (List D)) : DS → ER D := mb n (callF ms f)
/-- defaults at the end -/
def mCallD (ms : List Bool) (f : Fn) (dfl : List PD) (n : DS → ER (List D)) : DS → ER D := mb n fun ds => callF ms f (ds ++ dfl.map .p)
section
variable {X : Cx} {c : DC} {k : Nat} {fa : Addr} {fd : FuncData} {ps : List Str} {ds : List Value} {x : Str} {p pos : Pos} {e : Expr} {es : List Expr} {n : DS → ER (List D)} {ms : List Bool} {f : Fn}
theorem de_call (F : FnOk X.prog X.w X.K X.mg X.base (L2.CX X.prog X.w) k fa fd ps (spD X.K c.cx ms f)) (hr : Room k X.A) (tk : Takes X c.W) (hm : X.mg x = some (.ref fa)) (hk : PySem.W.keepIn X.K (.ref fa) = true) (hb : Binds X.K fd ps []) (ha : DA X c (e :: es) n) (hg : Gl X x := by rfl)
    (hdb : (x == ("__debug__" : Str)) = false := by decide) (he : starEach (e :: es) X.env = (false, eval e X.env) :: starEach es X.env := by rfl) (hpl : (backTo pos (starEach es X.env)).any (·.1) = false := by rfl) :
    DE X c (.Call (.Name x p) (e :: es) [] pos) (mCall ms f n) := pe_imp (pe_callS F hr hg hm hk hb (fun σ => passAt tk σ) ha hdb he hpl) fun σ H Q h => by
  obtain ⟨G, φ, s, S, p⟩ := h
  refine (rd.bind (rel := RDs X.K) S p).mono fun vs H1 ⟨G1, φ1, s1, d, g1, S1, r1, p1⟩ => ?_
  exact call_sp S1 r1 p1
theorem de_callD {dvs : List V} {dfl : List PD} (F : FnOk X.prog X.w X.K X.mg X.base (L2.CX X.prog X.w) k fa fd ps (spD X.K c.cx ms f)) (hr : Room k X.A) (tk : Takes X c.W) (hm : X.mg x = some (.ref fa)) (hk : PySem.W.keepIn X.K (.ref fa) = true) (hb : Binds X.K fd ps ds) (hd : Vals dvs ds) (hdf : ∀ G, Paired (Rp X.K G) dvs dfl) (ha : DA X c (e :: es) n) (hg : Gl X x := by rfl)
    (hdb : (x == ("__debug__" : Str)) = false := by decide) (he : starEach (e :: es) X.env = (false, eval e X.env) :: starEach es X.env := by rfl) (hpl : (backTo pos (starEach es X.env)).any (·.1) = false := by rfl) :
    DE X c (.Call (.Name x p) (e :: es) [] pos) (mCallD ms f dfl n) := pe_imp (pe_callSD F hr hg hm hk hb hd (fun σ => passAt tk σ) ha hdb he hpl) fun σ H Q h => by
  obtain ⟨G, φ, s, S, p⟩ := h
  refine (rd.bind (rel := RDs X.K) S p).mono fun vs H1 ⟨G1, φ1, s1, d, g1, S1, r1, p1⟩ => ?_
  exact call_sp S1 (paired_append r1 (paired_map (fun _ _ z => z) (hdf G1))) p1
end

def noX {α : Type} (m : DS → ER α) : DS → ER α := fun s => match m s with
  | .exc _ _ _ => .no
  | o => o
theorem call_sp0 {K : PySem.W.Frag} {c : DC} {φ : List Addr} {σ : St} {H : Hp} {G : Hp} {s : DS} {ms : List Bool} {f : Fn} {vs : List V} {ds : List D} {Q : VK} (S : Sim K c G φ s σ H) (r : RDs K G φ vs ds) (p : Po K c (RD K) (noX (callF ms f ds) s) G φ σ Q) : spD K c.cx ms f vs H Q E0 := by
  have S' : Sim K { c with W := fun _ _ _ _ => False } G φ s σ H := ⟨S.gh, S.rh, S.fr, S.len, S.env, S.clen, fun n a x h1 h2 => by
    have h := S.cell n a x h1 h2
    cases x with
    | lst l => exact h
    | froz d => exact h, S.cR, S.cH, S.nd, S.ex⟩
  have p' : Po K { c with W := fun _ _ _ _ => False } (RD K) (callF ms f ds s) G φ σ Q := by
    unfold noX at p
    cases q : callF ms f ds s with
    | ok d s' =>
      rw [q] at p
      exact fun v G' φ' H' g S2 r2 => p v G' φ' H' g ⟨S2.gh, S2.rh, S2.fr, S2.len, S2.env, S2.clen, fun n a x h1 h2 => by
        have h := S2.cell n a x h1 h2
        cases x with
        | lst l => exact h
        | froz d => exact h, S2.cR, S2.cH, S2.nd, S2.ex⟩ r2
    | exc e fs s' => rw [q] at p; exact p.elim
    | no => rw [q] at p; exact p.elim
  have h := call_sp (c := { c with W := fun _ _ _ _ => False }) S' r p'
  exact h
def mKw (ms : List Bool) (f : Fn) (np nk : Nat) (gd : List D → List D → List D) (n n2 : DS → ER (List D)) : DS → ER D := mb n fun ds => mb n2 fun es s => if ds.length = np ∧ es.length = nk then noX (callF ms f (gd ds es)) s else .no
abbrev DK (X : Cx) (c : DC) (kws : List Keyword) (m : DS → ER (List D)) : Prop := PK X kws (rd X.K c (RDs X.K) m)
theorem pk_imp {X : Cx} {es : List Keyword} {t t' : TA} (h : PK X es t) (i : ∀ σ H Q, t' σ H Q → t σ H Q) : PK X es t' := ⟨fun pos pins s σ H Q I q => h.run pos pins s σ H Q I (i _ _ _ q)⟩
theorem dk_nil {X : Cx} {c : DC} : DK X c [] mNil := pk_imp pk_nil fun σ H Q h => by
  obtain ⟨G, φ, s, S, p⟩ := h
  exact Po.ok p Gr.refl S .nil
theorem dk_cons {X : Cx} {c : DC} {e : Expr} {nm : Option Str} {kpos : Pos} {kws : List Keyword} {m : DS → ER D} {n : DS → ER (List D)} (ha : DE X c e m) (hr : DK X c kws n) : DK X c (⟨nm, e, kpos⟩ :: kws) (mCons m n) := pk_imp (pk_cons ha hr) fun σ H Q h => by
  obtain ⟨G, φ, s, S, p⟩ := h
  refine (rd.bind (rel := RD X.K) S p).mono fun v H1 ⟨G1, φ1, s1, d, g1, S1, r1, p1⟩ => ?_
  refine (rd.bind (rel := RDs X.K) S1 p1).mono fun vs H2 ⟨G2, φ2, s2, ds, g2, S2, r2, p2⟩ => ?_
  exact Po.ok p2 Gr.refl S2 (.cons (r1.up g2) r2)
theorem de_kw {X : Cx} {c : DC} {k np nk : Nat} {fa : Addr} {fd : FuncData} {ps ks : List Str} {x : Str} {p pos : Pos} {e : Expr} {es : List Expr} {kws : List Keyword} {n n2 : DS → ER (List D)} {ms : List Bool} {f : Fn} {g : List Value → List Value → List Value} {gV : List V → List V → List V} {gd : List D → List D → List D}
    (F : FnOk X.prog X.w X.K X.mg X.base (L2.CX X.prog X.w) k fa fd ps (spD X.K c.cx ms f)) (hr : Room k X.A) (hm : X.mg x = some (.ref fa)) (hk : PySem.W.keepIn X.K (.ref fa) = true) (hb : KBn X.K fd ps np ks g gV)
    (hgd : ∀ (G : Hp) (φ : List Addr) {vs zs : List V} {ds es : List D}, RDs X.K G φ vs ds → RDs X.K G φ zs es → RDs X.K G φ (gV vs zs) (gd ds es)) (ha : DA X c (e :: es) n) (hkw : DK X c kws n2) (hnk : ks.length = nk := by rfl) (hg : Gl X x := by rfl)
    (hall : (backToKw pos (keywordEach kws X.env)).all (·.1.isSome) = true := by rfl) (hks : (backToKw pos (keywordEach kws X.env)).filterMap (·.1) = ks := by rfl)
    (hdb : (x == ("__debug__" : Str)) = false := by decide) (he : starEach (e :: es) X.env = (false, eval e X.env) :: starEach es X.env := by rfl)
    (hpl : ((backTo pos (starEach (e :: es) X.env)).any (·.1) || (backToKw pos (keywordEach kws X.env)).any (·.1.isNone)) = false := by rfl) :
    DE X c (.Call (.Name x p) (e :: es) kws pos) (mKw ms f np nk gd n n2) := pe_imp (pe_callN F hr hg hm hk hb passL ha hkw hall hks hdb he hpl) fun σ H Q h => by
  subst hnk
  obtain ⟨G, φ, s, S, p⟩ := h
  refine (rd.bind (rel := RDs X.K) S p).mono fun vs H1 ⟨G1, φ1, s1, ds, g1, S1, r1, p1⟩ => ?_
  refine (rd.bind (rel := RDs X.K) S1 p1).mono fun zs H2 ⟨G2, φ2, s2, es', g2, S2, r2, p2⟩ => ?_
  split at p2
  · rename_i hl
    exact ⟨by rw [paired_length r1]; exact hl.1, by rw [paired_length r2]; exact hl.2, call_sp0 S2 (hgd G2 φ2 (RDs.up g2 r1) r2) p2⟩
  · exact p2.elim

def contN (n : Nat) (s : DS) : Option (List (List PD)) := cont s (List.range n)
def initE : List Bool → List PD → Nat → List (Option D)
  | false :: ms, d :: ds, k => some (.p d) :: initE ms ds k
  | true :: ms, ds, k => some (.ref k) :: initE ms ds (k + 1)
  | _, _, _ => []
def entry (N : Nat) (ms : List Bool) (ds : List PD) (cs : List (List PD)) : DS :=
  { env := initE ms ds 0 ++ List.replicate (N - ms.length) none, cells := cs.map fun l => .lst (l.map .p) }
def finR (nw : Bool) (n : Nat) (d : D) (s : DS) : FR := match nw with
  | false => match frz fuel s d with
    | some (x, s') => match contN n s' with
      | some cs => .ok x cs
      | none => .no
    | none => .no
  | true => match d with
    | .ref k => if n ≤ k then match s.cells[k]? with
        | some (.lst l) => match frzs fuel s l with
          | some (xs, s') => match s'.cells[k]? with
            | some (.lst _) => match contN n s' with
              | some cs => .new xs cs
              | none => .no
            | _ => .no
          | none => .no
        | _ => .no
      else .no
    | _ => .no
def fin (nw : Bool) (n : Nat) : SR → FR
  | .nx s => finR nw n (.p .non) s
  | .rt d s => finR nw n d s
  | .exc e fs s => match contN n s with
    | some cs => .exc e fs cs
    | none => .no
  | _ => .no
/-- the def's function, from its body's -/
def runF (N : Nat) (ms : List Bool) (nw : Bool) (m : DS → SR) : Fn := fun ds cs => fin nw cs.length (m (entry N ms ds cs))
section
variable {K : PySem.W.Frag} {cx : Nat → Addr} {G H : Hp} {as : List Addr}
theorem init_env {φ : List Addr} : ∀ {ms : List Bool} {vs : List V} {ds : List PD} {cs : List (List PD)} {as : List Addr}, RArgs K G H ms vs ds cs as → ∀ (k : Nat), (∀ j a, as[j]? = some a → φ[k + j]? = some a) →
    (initE ms ds k).length = ms.length ∧ ∀ (i : Nat) (d : D), (initE ms ds k)[i]? = some (some d) → ∃ v, vs[i]? = some v ∧ RD K G φ v d := by
  intro ms vs ds cs as h
  induction h with
  | nil => intro k hk; exact ⟨rfl, fun i d e => by simp [initE] at e⟩
  | @p v d ms vs ds cs as r _ ih =>
    intro k hk
    obtain ⟨h1, h2⟩ := ih k hk
    refine ⟨by simp [initE, h1], fun i d' e => ?_⟩
    cases i with
    | zero =>
      have e' : d' = .p d := by simpa [initE] using e.symm
      subst e'
      exact ⟨v, rfl, r⟩
    | succ i => exact h2 i d' (by simpa [initE] using e)
  | @m a xs l ms vs ds cs as hH r _ ih =>
    intro k hk
    obtain ⟨h1, h2⟩ := ih (k + 1) fun j b e => by
      have := hk (j + 1) b (by simpa using e)
      rw [Nat.add_assoc, Nat.add_comm 1 j]
      exact this
    refine ⟨by simp [initE, h1], fun i d' e => ?_⟩
    cases i with
    | zero =>
      have e' : d' = .ref k := by simpa [initE] using e.symm
      subst e'
      exact ⟨.ref a, rfl, a, hk 0 a rfl, rfl⟩
    | succ i => exact h2 i d' (by simpa [initE] using e)
/-- the rigid heap of a def's body: all but the lists that it may change -/
def rigid (H : Hp) (as : List Addr) : Hp := fun b => if b ∈ as then none else H b
theorem rigid_out {H : Hp} {as : List Addr} {b : Addr} (h : b ∉ as) : rigid H as b = H b := if_neg h
theorem rigid_in {H : Hp} {as : List Addr} {b : Addr} (h : b ∈ as) : rigid H as b = none := if_pos h
theorem RArgs.at {ms : List Bool} {vs : List V} {ds : List PD} {cs : List (List PD)} {as : List Addr} (h : RArgs K G H ms vs ds cs as) : Paired (fun a l => ∃ xs, H a = some (.lst xs) ∧ Paired (Rp K G) xs l) as cs := by
  induction h with
  | nil => exact .nil
  | p _ _ ih => exact ih
  | m hH r _ ih => exact .cons ⟨_, hH, r⟩ ih
theorem entry_sim {N : List Str} {ms : List Bool} {vs : List V} {ds : List PD} {cs : List (List PD)} {W : WX} (gh : Same G H) (h : RArgs K G H ms vs ds cs as) (nd : as.Nodup) (hG : ∀ a ∈ as, G a = none) (hN : ms.length ≤ N.length) :
    Sim K ⟨cx, rigid H as, G, none, W⟩ G as (entry N.length ms ds cs) (start N vs) H := by
  obtain ⟨h1, h2⟩ := init_env (φ := as) h 0 (fun j a e => by rw [Nat.zero_add]; exact e)
  have hl : vs.length = ms.length := h.length
  have pr := h.at
  refine ⟨gh, fun b o e => ?_, fun a ha hr => ha, ?_, fun i d e => ?_, ?_, fun n a x e1 e2 => ?_, fun a ha => rigid_in ha, fun a ha => ?_, nd, fun e fs q => by cases q⟩
  · by_cases hb : b ∈ as
    · have e' : rigid H as b = some o := e
      rw [rigid_in hb] at e'; cases e'
    · have e' : rigid H as b = some o := e
      rw [rigid_out hb] at e'; exact e'
  · unfold entry L2.start
    simp only [List.length_append, List.length_map, List.length_replicate, h1, hl]
  · have e' : (initE ms ds 0 ++ List.replicate (N.length - ms.length) none)[i]? = some (some d) := e
    by_cases hi : i < (initE ms ds 0).length
    · rw [List.getElem?_append_left hi] at e'
      obtain ⟨v, hv, r⟩ := h2 i d e'
      refine ⟨v, ?_, r⟩
      unfold L2.start
      rw [List.getElem?_append_left (by rw [List.length_map, hl, ← h1]; exact hi), List.getElem?_map, hv] <;> rfl
    · rw [List.getElem?_append_right (by omega), List.getElem?_replicate] at e'
      split at e'
      · cases e'
      · cases e'
  · show (cs.map _).length = as.length
    rw [List.length_map]; exact h.clen
  · have e2' : (cs.map fun l => Cell.lst (l.map .p))[n]? = some x := e2
    rw [List.getElem?_map] at e2'
    cases q : cs[n]? with
    | none => rw [q] at e2'; cases e2'
    | some l =>
      rw [q] at e2'
      cases (Option.some.inj e2')
      obtain ⟨a', ha', xs, hH, r⟩ := paired_get pr q
      rw [e1] at ha'
      cases ha'
      exact ⟨hG a (List.mem_of_getElem? e1), xs, hH, paired_map (fun _ _ z => z) r⟩
  · obtain ⟨n, hn⟩ := List.mem_iff_getElem?.mp ha
    have hlt : n < cs.length := by rw [h.clen]; exact (List.getElem?_eq_some_iff.mp hn).1
    obtain ⟨a', ha', xs, hH, _⟩ := paired_get pr (List.getElem?_eq_getElem hlt)
    rw [hn] at ha'
    cases ha'
    rw [hH]; simp
theorem paired_of_at {P : Addr → List PD → Prop} : ∀ {as : List Addr} {cs : List (List PD)}, as.length = cs.length → (∀ (n : Nat) (a : Addr) (l : List PD), as[n]? = some a → cs[n]? = some l → P a l) → Paired P as cs
  | [], [], _, _ => .nil
  | a :: as, l :: cs, hl, h => .cons (h 0 a l rfl rfl) (paired_of_at (by simpa using hl) fun n b x e1 e2 => h (n + 1) b x (by simpa using e1) (by simpa using e2))
theorem cont_at {s : DS} : ∀ {ns : List Nat} {cs : List (List PD)}, cont s ns = some cs → cs.length = ns.length ∧ ∀ (j n : Nat) (l : List PD), ns[j]? = some n → cs[j]? = some l → ∃ l0, s.cells[n]? = some (.lst l0) ∧ pds l0 = some l
  | [], cs, e => by cases (Option.some.inj e); exact ⟨rfl, fun j n l h => by simp at h⟩
  | n :: ns, cs, e => by
    unfold cont at e
    cases q : s.cells[n]? with
    | none => rw [q] at e; cases e
    | some x =>
      rw [q] at e
      cases x with
      | froz _ => cases e
      | lst l0 =>
        dsimp only at e
        obtain ⟨x, e1, e2⟩ := Option.bind_eq_some_iff.mp e
        obtain ⟨xs, e3, e4⟩ := Option.map_eq_some_iff.mp e2
        subst e4
        obtain ⟨h1, h2⟩ := cont_at e3
        refine ⟨by simp [h1], fun j n' l' hj hl => ?_⟩
        cases j with
        | zero =>
          simp at hj hl
          subst hj hl
          exact ⟨l0, q, e1⟩
        | succ j => exact h2 j n' l' (by simpa using hj) (by simpa using hl)
/-- the end of a def's body: what the caller finds -/
theorem exit_aft {ms : List Bool} {vs : List V} {ds : List PD} {cs cs' : List (List PD)} {W : WX} {G' H' : Hp} {φ' : List Addr} {s' : DS} {σ' : St} (h : RArgs K G H ms vs ds cs as) (nd : as.Nodup)
    (g : Gr G as G' φ') (S : Sim K ⟨cx, rigid H as, G, none, W⟩ G' φ' s' σ' H') (e : contN cs.length s' = some cs') : Aft K G H as cs' G' H' := by
  obtain ⟨hl, hat⟩ := cont_at e
  rw [List.length_range] at hl
  have cells : ∀ (n : Nat) (a : Addr) (l : List PD), as[n]? = some a → cs'[n]? = some l → G' a = none ∧ ∃ xs, H' a = some (.lst xs) ∧ Paired (Rp K G') xs l := fun n a l e1 e2 => by
    have hn : n < cs.length := by rw [h.clen]; exact (List.getElem?_eq_some_iff.mp e1).1
    obtain ⟨l0, h1, h2⟩ := hat n n l (List.getElem?_range hn) e2
    obtain ⟨h3, xs, h4, h5⟩ := S.cell n a _ (g.at e1) h1
    exact ⟨h3, xs, h4, pds_ok h5 h2⟩
  have hlen : as.length = cs'.length := by rw [hl, h.clen]
  refine ⟨g.g, S.gh, fun b o hb hH => S.rh b o (by show rigid H as b = some o; rw [rigid_out hb]; exact hH), fun b h1 h2 => ?_, paired_of_at hlen cells⟩
  by_cases hb : b ∈ as
  · obtain ⟨n, hn⟩ := List.mem_iff_getElem?.mp hb
    have hlt : n < cs'.length := by rw [← hlen]; exact (List.getElem?_eq_some_iff.mp hn).1
    obtain ⟨h3, _⟩ := cells n b _ hn (List.getElem?_eq_getElem hlt)
    exact absurd h3 h1
  · exact S.fr b h1 (by show rigid H as b ≠ none; rw [rigid_out hb]; exact h2)
theorem fin_ok {N : List Str} {ms : List Bool} {nw : Bool} {m : DS → SR} {vs : List V} {ds : List PD} {cs : List (List PD)} {Q : VK} {E : XK} (h : RArgs K G H ms vs ds cs as) (nd : as.Nodup)
    (p : PoF K cx G H as (runF N.length ms nw m ds cs) Q E) : PoS K ⟨cx, rigid H as, G, none, fun cls d _ H' => E cls d H'⟩ (m (entry N.length ms ds cs)) G as { nx := fun _ H' => Q .non H', rt := Q } := by
  unfold runF at p
  have ret : ∀ {d : D} {s' : DS}, PoF K cx G H as (finR nw cs.length d s') Q E → ∀ v σ' G' φ' H', Gr G as G' φ' → Sim K ⟨cx, rigid H as, G, none, fun cls d _ H' => E cls d H'⟩ G' φ' s' σ' H' → RD K G' φ' v d → Q v H' := by
    intro d s' p v σ' G' φ' H' g S r
    unfold finR at p
    cases nw with
    | false =>
      dsimp only at p
      cases q : frz fuel s' d with
      | none => rw [q] at p; exact p.elim
      | some z =>
        obtain ⟨x, s2⟩ := z
        rw [q] at p
        dsimp only at p
        obtain ⟨G2, g2, S2, h2⟩ := frz_ok fuel d S q
        cases q2 : contN cs.length s2 with
        | none => rw [q2] at p; exact p.elim
        | some cs' =>
          rw [q2] at p
          exact p v G2 H' (exit_aft h nd (g.trans g2) S2 q2) (h2 v r)
    | true =>
      cases d with
      | p _ => exact p.elim
      | ref k =>
        dsimp only at p
        by_cases hk : cs.length ≤ k
        · rw [if_pos hk] at p
          cases q : s'.cells[k]? with
          | none => rw [q] at p; exact p.elim
          | some x =>
            rw [q] at p
            cases x with
            | froz _ => exact p.elim
            | lst l =>
              dsimp only at p
              cases q1 : frzs fuel s' l with
              | none => rw [q1] at p; exact p.elim
              | some z =>
                obtain ⟨xs, s2⟩ := z
                rw [q1] at p
                dsimp only at p
                obtain ⟨G2, g2, S2, h2⟩ := frzs_ok fuel l S q1
                cases q3 : s2.cells[k]? with
                | none => rw [q3] at p; exact p.elim
                | some y =>
                  rw [q3] at p
                  cases y with
                  | froz _ => exact p.elim
                  | lst l2 =>
                    dsimp only at p
                    cases q4 : contN cs.length s2 with
                    | none => rw [q4] at p; exact p.elim
                    | some cs' =>
                      rw [q4] at p
                      obtain ⟨a, ha, rfl⟩ := r
                      obtain ⟨_, ws, hH, rw1⟩ := S.cell k a _ ha q
                      obtain ⟨hG2, _, _, _⟩ := S2.cell k a _ ha q3
                      have hna : a ∉ as := fun hm => by
                        obtain ⟨j, hj⟩ := List.mem_iff_getElem?.mp hm
                        have := nodup_at S.nd (g.at hj) ha
                        have hlt := (List.getElem?_eq_some_iff.mp hj).1
                        rw [← h.clen] at hlt
                        omega
                      have hR : rigid H as a = none := S.cR a (List.mem_of_getElem? ha)
                      rw [rigid_out hna] at hR
                      exact p a ws G2 H' (exit_aft h nd (g.trans g2) S2 q4) hH (h2 ws rw1) hG2 hR
        · rw [if_neg hk] at p
          exact p.elim
  cases q : m (entry N.length ms ds cs) with
  | nx s' => rw [q] at p; exact fun σ' G' φ' H' g S => ret (d := .p .non) p .non σ' G' φ' H' g S Rp.non
  | rt d s' => rw [q] at p; exact ret p
  | bk s' => rw [q] at p; exact p.elim
  | ct s' => rw [q] at p; exact p.elim
  | exc e fs s' =>
    rw [q] at p
    intro cls dd σ' G' φ' H' g S xr
    unfold fin at p
    dsimp only at p
    cases q2 : contN cs.length s' with
    | none => rw [q2] at p; exact p.elim
    | some cs' =>
      rw [q2] at p
      exact p cls dd G' H' (exit_aft h nd g S q2) xr
  | no => rw [q] at p; exact p.elim
end
/-- THE RULE for a def -/
theorem def_ok {P : Program} {w : World} {K : PySem.W.Frag} {mg : Str → Option Value} {base : Heap} {cx : Nat → Addr} {x qual : Str} {st : Stmt} {f : Addr} {fd : FuncData} {N ps : List Str} {k : Nat} {ms : List Bool} {nw : Bool} {m : DS → SR} (F : Fun K x qual st f fd) (S : FnScope N ps (defScope st))
    (hb : ∀ (cdv : Value) (A : Around) (outer : List Env) (s : Shared) (H : Hp) (E : XK) (R G0 : Hp) (W : WX), Takes (cxOf (L2.CX P w) P w K mg base N qual (defScope st) f cdv A outer s H E) W → Room k (A.deeper (PyProof.Rows.envOfC qual (defScope st) s.heap.objs.size f cdv)) →
      DSs (cxOf (L2.CX P w) P w K mg base N qual (defScope st) f cdv A outer s H E) ⟨cx, R, G0, none, W⟩ (defBody st) m) (hm : ms.length = ps.length := by rfl) (hN : ps.length ≤ N.length := by decide) : FnOk P w K mg base (L2.CX P w) (k + 1) f fd ps (spD K cx ms (runF N.length ms nw m)) := by
  refine F.okX S (fun vs H Q E h => ?_) fun cdv A outer s H vs Q E hr h => ?_
  · obtain ⟨G, ds, cs, as, _, h2, _⟩ := h
    rw [h2.length]; exact hm
  · obtain ⟨G, ds, cs, as, h1, h2, h3, h4, h5⟩ := h
    refine ⟨_, hb cdv A outer s H E (rigid H as) G (fun cls d _ H' => E cls d H') (takes_of rfl rfl rfl rfl) hr, ?_⟩
    exact ⟨G, as, _, entry_sim h1 h2 h3 h4 (by rw [hm]; exact hN), fin_ok h2 h3 h5⟩
theorem defD_ok {P : Program} {w : World} {K : PySem.W.Frag} {mg : Str → Option Value} {base : Heap} {cx : Nat → Addr} {x qual : Str} {params : Arguments} {body : List Stmt} {scope : Scope} {dvs : List V} {kws : List (Str × V)} {f : Addr} {fd : FuncData} {N ps : List Str} {k : Nat} {ms : List Bool} {nw : Bool} {m : DS → SR} (F : FunD K x qual params body scope dvs kws f fd) (S : FnScope N ps scope)
    (hb : ∀ (cdv : Value) (A : Around) (outer : List Env) (s : Shared) (H : Hp) (E : XK) (R G0 : Hp) (W : WX), Takes (cxOf (L2.CX P w) P w K mg base N qual scope f cdv A outer s H E) W → Room k (A.deeper (PyProof.Rows.envOfC qual scope s.heap.objs.size f cdv)) →
      DSs (cxOf (L2.CX P w) P w K mg base N qual scope f cdv A outer s H E) ⟨cx, R, G0, none, W⟩ body m) (hm : ms.length = ps.length := by rfl) (hN : ps.length ≤ N.length := by decide) : FnOk P w K mg base (L2.CX P w) (k + 1) f fd ps (spD K cx ms (runF N.length ms nw m)) := by
  refine F.ok S (fun vs H Q E h => ?_) fun cdv A outer s H vs Q E hr h => ?_
  · obtain ⟨G, ds, cs, as, _, h2, _⟩ := h
    rw [h2.length]; exact hm
  · obtain ⟨G, ds, cs, as, h1, h2, h3, h4, h5⟩ := h
    refine ⟨_, hb cdv A outer s H E (rigid H as) G (fun cls d _ H' => E cls d H') (takes_of rfl rfl rfl rfl) hr, ?_⟩
    exact ⟨G, as, _, entry_sim h1 h2 h3 h4 (by rw [hm]; exact hN), fin_ok h2 h3 h5⟩
end DL
namespace L2
open PySem PySem.Spec PyProof.Rows
/-- the end of C(), an exception without a dict -/
theorem mk_endN {X : Cx} {pins : List (Addr × Obj)} {σ : St} {H1 H2 : Hp} {Q : XK} {hp hp2 h2 : Heap} {g1 g2 : Array GenState} {d1 d2 : Drawn} {t1 t2 : Nat} {os1 os2 : OsState} {a C : Addr} (T : Raises X (.ref C)) (I1 : Inv X pins σ H1 ⟨hp, g1, d1, t1, os1⟩)
    (ha : hp.objs.size ≤ a) (k : ∀ b o, hp.get? b = some o → hp2.get? b = some o) (un : Un (frs X.stack) [] (upd H1 a (exo a C none)) H2 hp2 h2) (hok : HOk X.prog X.w H2 h2) (ho : os2 = os1) (hb : AllBare g2)
    (ea : H2 a = some (exo a C none)) (q : Q (.ref C) none (del H2 a)) : MkP X pins σ Q (.ref a) ⟨h2, g2, d2, t2, os2⟩ := by
  obtain ⟨t0, hoe⟩ := exo_at hok ea
  have hn : H1 a = none := I1.hok.fresh ha
  obtain ⟨G, g1', g2'⟩ := restrict h2 fun b => decide (b ≠ a)
  have gk : ∀ b, b ≠ a → G.get? b = h2.get? b := fun b hb => g1' b (decide_eq_true hb)
  have ge : G.get? a = none := g2' a (by simp)
  have nha : ∀ {b : Addr} {o : Obj}, hp.get? b = some o → b ≠ a := fun {b o} z => Nat.ne_of_lt (Nat.lt_of_lt_of_le (Heap.lt_size z) ha)
  have up : ∀ {b : Addr}, b ≠ a → H1 b = none → upd H1 a (exo a C none) b = none := fun {b} hb n => by rw [upd_ne hb]; exact n
  have U : Un (frs X.stack) [] H1 (del H2 a) hp G := {
    keep := fun b o z n hf hx => by
      rw [gk b (nha z)]
      exact un.keep b o (k b o z) (up (nha z) n) hf hx
    slot := fun b o z n hf hx => by
      rw [gk b (nha z)]
      exact un.slot b o (k b o z) (up (nha z) n) hf hx
    free := fun b o z n hx => by
      rw [del_ne (nha z)]
      exact un.free b o (k b o z) (up (nha z) n) hx
    there := fun b o z hx => by
      rw [gk b (nha z)]
      exact un.there b o (k b o z) hx
    tups := fun b xs z => by
      rw [del_ne (ne_of_none z hn)]
      exact un.tups b xs (by rw [upd_ne (ne_of_none z hn)]; exact z)
    frzs := fun b o v z => by
      rw [del_ne (ne_of_none z hn)]
      exact un.frzs b o v (by rw [upd_ne (ne_of_none z hn)]; exact z)
    tbls := fun b ps z => by
      rw [del_ne (ne_of_none z hn)]
      exact un.tbls b ps (by rw [upd_ne (ne_of_none z hn)]; exact z) }
  have hok3 : HOk X.prog X.w (del H2 a) G := fun b o z => by
    have hba : b ≠ a := fun e => by
      rw [e, del_same] at z
      cases z
    rw [del_ne hba] at z
    have noa : ∀ {c : Addr}, H2 c = some (.own b) → c ≠ a := fun {c} hc => at_ne ea hc exo_own
    exact (hok b o z).stay (fun c v hc y => by
        have hca : c ≠ a := by
          rcases hc with hc | hc
          · rw [hc]
            exact hba
          · exact noa hc
        rw [gk c hca]
        exact y)
      (fun c hc => by rw [del_ne (noa hc)]; exact hc) (fun c xs hc => by rw [del_ne (at_ne ea hc exo_tup)]; exact hc)
  have J : Inv X pins σ (del H2 a) ⟨G, g2, d2, t2, os2⟩ := I1.call' (ch := []) ho U hok3 hb (fun b z => absurd z (by simp))
  refine ⟨a, _, _, ⟨G, g2, d2, t2, os2⟩, _, .ref C, none, rfl, J, fun b o z => ?_, ge, hoe, ⟨rfl, rfl⟩, rfl, rfl, del_same, rfl, hb, T, q⟩
  by_cases hba : b = a
  · have z' : G.get? b = some o := z
    rw [hba, ge] at z'
    cases z'
  · exact (gk b hba).symm.trans z
/-- C(), C's own __init__ keeping sp -/
def tMkO0 (C : Addr) (sp : Sp) : St → Hp → XK → Prop := fun σ H Q => ∀ a, H a = none → sp [.ref a] (upd H a (exo a C none))
  (fun v H2 => v = .non ∧ H2 a = some (exo a C none) ∧ Q (.ref C) none (del H2 a)) (fun _ _ _ => False)
theorem pmk_oex0 {X : Cx} {CX : CXT} {x : Str} {C fI : Addr} {k : Nat} {fd : FuncData} {ps : List Str} {sp : Sp} {p pos : Pos} (T : OexC X.K C) (iC : PySem.W.findIn X.K (.ref C) "__init__" = some (some (.ref fI))) (tI : PySem.W.typeIn X.K (.ref fI) = some (.type "function"))
    (F1 : FnOk X.prog X.w X.K X.mg X.base CX k fI fd ps sp) (hr : Room (k + 1) X.A) (hb : Binds X.K fd ps []) (hx : Passes CX X (fun _ _ _ => False)) (hg : Gl X x) (hm : X.mg x = some (.ref C))
    (hdb : (x == ("__debug__" : Str)) = false := by decide) : PMk X (.Call (.Name x p) [] [] pos) (tMkO0 C sp) := by
  intro pins s σ H Q I h
  obtain ⟨nm, q, N, bs, bm, sn, sub, ab, col, dd, k0, k1, k2, k3, k5, hC, hbm⟩ := T.cls
  refine wpAny_Call_Name_kw (ld_glob I hg hm ?_ hdb)
  refine PySem.W.callWith_K0 I.kIn T.kC ?_
  show wpAny _ _ (call (.ref C) []) _ _ _
  obtain ⟨hp, g, dr, tk, os⟩ := s
  have hsz : hp.objs.size ≤ hp.objs.size + 1 := Nat.le_succ _
  have hn : H (hp.objs.size + 1) = none := I.hok.fresh hsz
  have hq := h (hp.objs.size + 1) hn
  have kk : ∀ b o, hp.get? b = some o → ((hp.push (PySem.W.kdv_tup [])).push (PySem.HandSPX.excO C hp.objs.size)).get? b = some o := fun b o e => Heap.get?_push_of_some _ (Heap.get?_push_of_some _ e)
  have hget : ((hp.push (PySem.W.kdv_tup [])).push (PySem.HandSPX.excO C hp.objs.size)).get? (hp.objs.size + 1) = some (PySem.HandSPX.excO C hp.objs.size) := by heap_get
  have I2 : Inv X pins σ (upd H (hp.objs.size + 1) (exo (hp.objs.size + 1) C none)) ⟨(hp.push (PySem.W.kdv_tup [])).push (PySem.HandSPX.excO C hp.objs.size), g, dr, tk, os⟩ :=
    I.laid (t' := tk) (a := hp.objs.size + 1) (o := exo (hp.objs.size + 1) C none) (h' := (hp.push (PySem.W.kdv_tup [])).push (PySem.HandSPX.excO C hp.objs.size)) kk hsz (exo_ok hget)
  have r2 : Vals [V.ref (hp.objs.size + 1)] [Value.ref (hp.objs.size + 1)] := .cons rfl .nil
  have hl : ([Value.ref (hp.objs.size + 1)] ++ ([] : List Value)).length = ps.length := by
    have e := r2.length
    rw [F1.len _ _ _ _ hq] at e
    exact e.symm
  refine wpAny_call (PySem.HandSPX.call_own F.excBase_ValueError (fun Y => PySem.HandSPX.refsVE_contains Y bm hbm) (I.kIn _ _ hC) (PySem.W.looks_findIn I.kIn iC) (fun self => PySem.W.bind_fn I.kIn self tI) (by show 0 ≤ sizeLine; exact Nat.zero_le _)
    (codeAny_mono (F1.run _ X.stack _ _ ⟨[Value.ref (hp.objs.size + 1)], []⟩ ([Value.ref (hp.objs.size + 1)] ++ []) _ _ (fun _ _ _ => False) (hr.make C [] []) (I2.env0.make C [] []) (hb _ [Value.ref (hp.objs.size + 1)] I2.kIn hl) r2 hq) fun r s' hq' => ?_))
  cases r with
  | error er => exact hx pins σ _ _ er s' I2 hq'
  | ok fl =>
    cases fl with
    | ret u =>
      obtain ⟨v, H2, os2, bare2, un2, hok2, rv, ev, ea, q2⟩ := hq'
      subst ev
      obtain ⟨h2, g2, d2, t2, os'⟩ := s'
      exact ⟨rv, mk_endN (raises_own T.exC T.tyC) I hsz kk un2 hok2 os2 bare2 ea q2⟩
    | next => exact False.elim hq'
    | brk => exact False.elim hq'
    | cont => exact False.elim hq'
end L2
namespace DL
open PySem PySem.Spec L2
/-- self.f1 = p1; self.f2 = p2; .. (the names fs, the first one first) -/
def spInit (K : PySem.W.Frag) (fs : List Str) : Sp := fun vs H Q _ => ∃ (a C : Addr) (xs : List V), vs = .ref a :: xs ∧ xs.length = fs.length ∧ OexC K C ∧ (∀ f ∈ fs, PySem.W.findIn K (.ref C) f = some none) ∧ H a = some (exo a C none) ∧
  ∀ d, H d = none → d ≠ a → Q .non (upd (upd H d (exd d (fs.zip xs).reverse)) a (exo a C (some d)))
def spInit0 (K : PySem.W.Frag) : Sp := fun vs H Q _ => ∃ (a C : Addr), vs = [.ref a] ∧ OexC K C ∧ H a = some (exo a C none) ∧ Q .non H
theorem spInit_len {K : PySem.W.Frag} {fs ps : List Str} (h : ps.length = fs.length + 1) : ∀ vs H Q E, spInit K fs vs H Q E → vs.length = ps.length := fun vs H Q E ⟨a, C, xs, e, l, _⟩ => by
  subst e
  rw [List.length_cons, l, h]
theorem spInit0_len {K : PySem.W.Frag} {ps : List Str} (h : ps.length = 1) : ∀ vs H Q E, spInit0 K vs H Q E → vs.length = ps.length := fun vs H Q E ⟨a, C, e, _⟩ => by
  subst e
  rw [h]
  rfl
/-- one field -/
theorem init1 {K : PySem.W.Frag} {f : Str} {vs : List V} {H : Hp} {Q : VK} {E : XK} (h : spInit K [f] vs H Q E) : tOst K f (tVar 0) (tVar 1) { nx := fun _ H' => Q .non H', rt := Q } (L2.start [("self" : Str), f] vs) H := by
  obtain ⟨a, C, xs, rfl, hl, T, hno, ha, k⟩ := h
  match xs, hl with
  | [x], _ => exact ⟨x, rfl, .ref a, rfl, a, C, rfl, T, hno f List.mem_cons_self, .inl ⟨ha, fun d hd hne => k d hd hne⟩⟩
/-- two fields -/
theorem init2 {K : PySem.W.Frag} {f g : Str} {vs : List V} {H : Hp} {Q : VK} {E : XK} (h : spInit K [f, g] vs H Q E) : tSeq (tOst K f (tVar 0) (tVar 1)) (tOst K g (tVar 0) (tVar 2)) { nx := fun _ H' => Q .non H', rt := Q } (L2.start [("self" : Str), f, g] vs) H := by
  obtain ⟨a, C, xs, rfl, hl, T, hno, ha, k⟩ := h
  match xs, hl with
  | [x, y], _ =>
    refine ⟨x, rfl, .ref a, rfl, a, C, rfl, T, hno f List.mem_cons_self, .inl ⟨ha, fun d hd hne => ?_⟩⟩
    refine ⟨y, rfl, .ref a, rfl, a, C, rfl, T, hno g (List.mem_cons_of_mem _ List.mem_cons_self), .inr ⟨d, [(f, x)], upd_same, by rw [upd_ne hne, upd_same], by show 1 ≤ 900; decide, ?_⟩⟩
    have e : upd (upd (upd H d (exd d [(f, x)])) a (exo a C (some d))) d (exd d ((g, y) :: [(f, x)])) = upd (upd H d (exd d (([f, g]).zip [x, y]).reverse)) a (exo a C (some d)) := by
      funext b
      unfold upd
      by_cases h1 : b = d
      · subst h1
        rw [if_pos rfl, if_neg hne, if_pos rfl] <;> rfl
      · rw [if_neg h1]
        by_cases h2 : b = a
        · rw [if_pos h2, if_pos h2]
        · rw [if_neg h2, if_neg h2, if_neg h1, if_neg h1]
    have k' := k d hd hne
    rw [← e] at k'
    exact k'
def sRaise (code : Nat) (fs : List Str) (n : DS → ER (List D)) : DS → SR := eb n fun ds s => match frzs fuel s ds with
  | some (xs, s') => if xs.length = fs.length then .exc code (fs.zip xs).reverse s' else .no
  | none => .no
def sRaise0 (code : Nat) : DS → SR := fun s => .exc code [] s
section
variable {X : Cx} {c : DC} {x : Str} {C fI : Addr} {k : Nat} {fd : FuncData} {ps fs : List Str} {p pos rpos : Pos} {e : Expr} {es : List Expr} {n : DS → ER (List D)} {code : Nat}
theorem paired_zip {K : PySem.W.Frag} {G : Hp} : ∀ {fs : List Str} {vs : List V} {ds : List PD}, Paired (Rp K G) vs ds → Paired (fun (p : Str × V) (q : Str × PD) => p.1 = q.1 ∧ Rp K G p.2 q.2) (fs.zip vs) (fs.zip ds)
  | [], _, _, _ => by simp; exact .nil
  | f :: fs, _, _, .nil => .nil
  | f :: fs, _, _, .cons r t => .cons ⟨rfl, r⟩ (paired_zip t)
theorem paired_rev {α β : Type} {R : α → β → Prop} {xs : List α} {ys : List β} (h : Paired R xs ys) : Paired R xs.reverse ys.reverse := by
  induction h with
  | nil => exact .nil
  | cons r _ ih => rw [List.reverse_cons, List.reverse_cons]; exact paired_append ih (.cons r .nil)
theorem ds_raise (hc : X.calm = true) (tk : Takes X c.W) (T : OexC X.K C) (iC : PySem.W.findIn X.K (.ref C) "__init__" = some (some (.ref fI))) (tI : PySem.W.typeIn X.K (.ref fI) = some (.type "function")) (hno : ∀ f ∈ fs, PySem.W.findIn X.K (.ref C) f = some none)
    (F1 : FnOk X.prog X.w X.K X.mg X.base (L2.CX X.prog X.w) k fI fd ps (spInit X.K fs)) (hr : Room (k + 1) X.A) (hb : Binds X.K fd ps []) (hm : X.mg x = some (.ref C)) (hC : c.cx code = C) (hfl : fs.length ≤ 1000) (ha : DA X c (e :: es) n) (hg : Gl X x := by rfl)
    (hdb : (x == ("__debug__" : Str)) = false := by decide) (he : starEach (e :: es) X.env = (false, eval e X.env) :: starEach es X.env := by rfl) (hpl : (backTo pos (starEach es X.env)).any (·.1) = false := by rfl) :
    DSt X c (.Raise (some (.Call (.Name x p) (e :: es) [] pos)) none rpos) (sRaise code fs n) := ps_imp (ps_raise hc tk (pmk_oex T iC tI F1 hr hb .nil passL hg hm ha hdb he hpl)) fun D σ H h => by
  obtain ⟨G, φ, s, S, p⟩ := h
  refine (eb_bind (rel := RDs X.K) S p).mono fun vs H1 ⟨G1, φ1, s1, ds, g1, S1, r1, p1⟩ => ?_
  cases q : frzs fuel s1 ds with
  | none => rw [q] at p1; exact p1.elim
  | some z =>
    obtain ⟨xs, s2⟩ := z
    rw [q] at p1
    dsimp only at p1
    obtain ⟨G2, g2, S2, h2⟩ := frzs_ok fuel ds S1 q
    have r2 := h2 vs r1
    by_cases hl : xs.length = fs.length
    · rw [if_pos hl] at p1
      refine ⟨by rw [paired_length r2, hl]; exact hfl, fun a haN => ?_⟩
      rw [List.append_nil]
      refine ⟨a, C, vs, rfl, by rw [paired_length r2, hl], T, hno, upd_same, fun d hd hne => ?_⟩
      have hd1 : H1 d = none := by rw [upd_ne hne] at hd; exact hd
      refine ⟨rfl, d, (fs.zip vs).reverse, upd_same, by rw [upd_ne hne, upd_same], hd1, ?_⟩
      have eH : upd (del (upd (upd (upd H1 a (exo a C none)) d (exd d (fs.zip vs).reverse)) a (exo a C (some d))) a) d (.xd (fs.zip vs).reverse) = upd H1 d (.xd (fs.zip vs).reverse) := by
        funext b
        unfold upd del
        by_cases h1 : b = d
        · rw [if_pos h1, if_pos h1]
        · rw [if_neg h1, if_neg h1]
          by_cases h2 : b = a
          · rw [if_pos h2, h2, haN]
          · rw [if_neg h2]
            show (if b = a then some (exo a C (some d)) else if b = d then some (exd d (fs.zip vs).reverse) else if b = a then some (exo a C none) else H1 b) = H1 b
            rw [if_neg h2, if_neg h1, if_neg h2]
      rw [eH]
      obtain ⟨S3, g3⟩ := S2.lay (o := .xd (fs.zip vs).reverse) hd1
      refine p1 (.ref C) (some d) σ _ φ1 _ (g2.trans g3) S3 ⟨by rw [hC], .inr ⟨d, _, rfl, upd_same, paired_rev (paired_zip (Rp.ups g3.g _ r2))⟩⟩
    · rw [if_neg hl] at p1
      exact p1.elim
theorem ds_raise0 (hc : X.calm = true) (tk : Takes X c.W) (T : OexC X.K C) (iC : PySem.W.findIn X.K (.ref C) "__init__" = some (some (.ref fI))) (tI : PySem.W.typeIn X.K (.ref fI) = some (.type "function"))
    (F1 : FnOk X.prog X.w X.K X.mg X.base (L2.CX X.prog X.w) k fI fd ps (spInit0 X.K)) (hr : Room (k + 1) X.A) (hb : Binds X.K fd ps []) (hm : X.mg x = some (.ref C)) (hC : c.cx code = C) (hg : Gl X x := by rfl)
    (hdb : (x == ("__debug__" : Str)) = false := by decide) :
    DSt X c (.Raise (some (.Call (.Name x p) [] [] pos)) none rpos) (sRaise0 code) := ps_imp (ps_raise hc tk (pmk_oex0 T iC tI F1 hr hb passL hg hm hdb)) fun D σ H h => by
  obtain ⟨G, φ, s, S, p⟩ := h
  intro a haN
  refine ⟨a, C, rfl, T, upd_same, rfl, upd_same, ?_⟩
  have eH : del (upd H a (exo a C none)) a = H := by
    funext b
    unfold upd del
    by_cases h2 : b = a
    · rw [if_pos h2, h2, haN]
    · rw [if_neg h2]
      show (if b = a then some (exo a C none) else H b) = H b
      rw [if_neg h2]
  rw [eH]
  exact p (.ref C) none σ G φ H Gr.refl S ⟨by rw [hC], .inl ⟨rfl, rfl⟩⟩
end

def exitS (i : Nat) (s : DS) : DS := { s with ex := none, env := s.env.set i none }
def outAs (i : Nat) : SR → SR
  | .nx s => .nx (exitS i s)
  | .rt d s => .rt d (exitS i s)
  | .bk s => .bk (exitS i s)
  | .ct s => .ct (exitS i s)
  | _ => .no
def outOnly : SR → SR
  | .exc _ _ _ => .no
  | o => o
/-- isA e: is the class e caught? (none: not told) -/
def sTryAs (isA : Nat → Option Bool) (i : Nat) (body suite : DS → SR) : DS → SR := fun s => match body s with
  | .exc e fs s' => match isA e with
    | some true => if i < s'.env.length then outAs i (suite { s' with ex := some (e, fs), env := s'.env.set i none }) else .no
    | some false => .exc e fs s'
    | none => .no
  | o => o
def sTry (isA : Nat → Option Bool) (body suite : DS → SR) : DS → SR := fun s => match body s with
  | .exc e fs s' => match isA e with
    | some true => outOnly (suite s')
    | some false => .exc e fs s'
    | none => .no
  | o => o
def DC.suite (c : DC) (i : Nat) (a : Addr) (cls : Value) (d : Option Addr) : DC := { c with hx := some (i, a, cls, d), W := fun _ _ _ _ => False }
section
variable {K : PySem.W.Frag} {c : DC} {G : Hp} {φ : List Addr} {σ : St} {H : Hp} {s : DS}
theorem Sim.withW (S : Sim K c G φ s σ H) (W : WX) : Sim K { c with W := W } G φ s σ H := ⟨S.gh, S.rh, S.fr, S.len, S.env, S.clen, fun n a x h1 h2 => by
  have h := S.cell n a x h1 h2
  cases x with
  | lst l => exact h
  | froz d => exact h, S.cR, S.cH, S.nd, S.ex⟩
theorem Sim.ofW {W : WX} (S : Sim K { c with W := W } G φ s σ H) : Sim K c G φ s σ H := ⟨S.gh, S.rh, S.fr, S.len, S.env, S.clen, fun n a x h1 h2 => by
  have h := S.cell n a x h1 h2
  cases x with
  | lst l => exact h
  | froz d => exact h, S.cR, S.cH, S.nd, S.ex⟩
theorem Sim.toSuite (S : Sim K c G φ s σ H) {i : Nat} {a : Addr} {cls : Value} {d : Option Addr} {e : Nat} {fs : Fields} (hi : i < s.env.length) (xr : XRp K c.cx G cls d e fs) :
    Sim K (c.suite i a cls d) G φ { s with ex := some (e, fs), env := s.env.set i none } (σ.set i (some (.ref a))) H := by
  refine ⟨S.gh, S.rh, S.fr, by simp [S.len], fun j x h => ?_, S.clen, fun n a x h1 h2 => ?_, S.cR, S.cH, S.nd, fun e' fs' q => ?_⟩
  · have h' : (s.env.set i none)[j]? = some (some x) := h
    by_cases hj : i = j
    · subst hj
      rw [List.getElem?_set_self hi] at h'
      cases Option.some.inj h'
    · rw [List.getElem?_set_ne hj] at h' ⊢
      exact S.env j x h'
  · have h := S.cell n a x h1 h2
    cases x with
    | lst l => exact h
    | froz d => exact h
  · have q' : (e, fs) = (e', fs') := Option.some.inj q
    cases q'
    exact ⟨i, a, cls, d, rfl, List.getElem?_set_self (by rw [← S.len]; exact hi), xr⟩
theorem Sim.ofSuite {i : Nat} {a : Addr} {cls : Value} {d : Option Addr} (S : Sim K (c.suite i a cls d) G φ s σ H) : Sim K c G φ (exitS i s) (σ.set i none) H := by
  refine ⟨S.gh, S.rh, S.fr, by show (s.env.set i none).length = _; simp [S.len], fun j x h => ?_, S.clen, fun n a x h1 h2 => ?_, S.cR, S.cH, S.nd, fun e' fs' q => by cases q⟩
  · have h' : (s.env.set i none)[j]? = some (some x) := h
    by_cases hj : i = j
    · subst hj
      have hl : i < s.env.length := by
        have := (List.getElem?_eq_some_iff.mp h').1
        simpa using this
      rw [List.getElem?_set_self hl] at h'
      cases Option.some.inj h'
    · rw [List.getElem?_set_ne hj] at h' ⊢
      exact S.env j x h'
  · have h := S.cell n a x h1 h2
    cases x with
    | lst l => exact h
    | froz d => exact h
end
section
variable {X : Cx} {c : DC} {x n : Str} {cV : Value} {i : Nat} {body suite : List Stmt} {b₀ : Stmt} {np pos pos' : Pos} {mbd ms : DS → SR} {isA : Nat → Option Bool}
theorem ds_tryAs (hisA : ∀ e b, isA e = some b → PySem.W.exmOne X.K (.ref (c.cx e)) cV = some b) (hcalm : Calm c) (hN : X.N.Nodup) (hcls : Names X x cV) (tk : Takes X c.W)
    (hb : ∀ (W : WX) (pn : List (Addr × Obj)) (xe : Value → Shared → Prop), Takes (X.tr pn xe) W → PassesOwn (model X.prog X.w) X.A X.env xe → DSs (X.tr pn xe) { c with W := W } body mbd)
    (hsu : ∀ (a : Addr) (oe : Obj) (cls : Value) (d : Option Addr) (pn : List (Addr × Obj)), Zc cls d oe → (∃ vs, oe.data = .fields vs) → DSs (X.suite a ((a, oe) :: pn)) (c.suite i a cls d) (b₀ :: suite) ms)
    (hs : X.stack = X.env :: X.outer := by rfl) (hf : X.env.frame = some X.env.locals := by rfl) (hi : X.N[i]? = some n := by rfl) (hln : X.env.kindOf n = some .local := by rfl) :
    DSt X c (.Try body [.ExceptHandler (some (.Name x np)) (some n) (b₀ :: suite) pos'] [] [] pos) (sTryAs isA i mbd ms) := ps_imp (ps_try_as (tb := fun W => rdS X.K { c with W := W } mbd) (ts := fun a cls d => rdS X.K (c.suite i a cls d) ms) hs hf hN hi hln hcls tk hb hsu) fun D σ H h => by
  obtain ⟨G, φ, s, S, p⟩ := h
  refine ⟨G, φ, s, S.withW _, ?_⟩
  unfold sTryAs at p
  cases q : mbd s with
  | nx s' => rw [q] at p; exact fun σ' G' φ' H' g S' => p σ' G' φ' H' g S'.ofW
  | rt d s' => rw [q] at p; exact fun v σ' G' φ' H' g S' r => p v σ' G' φ' H' g S'.ofW r
  | bk s' => rw [q] at p; exact fun σ' G' φ' H' g S' => p σ' G' φ' H' g S'.ofW
  | ct s' => rw [q] at p; exact fun σ' G' φ' H' g S' => p σ' G' φ' H' g S'.ofW
  | no => rw [q] at p; exact p
  | exc e fs s' =>
    rw [q] at p
    dsimp only at p
    intro cls dd σ' G' φ' H' g S' xr
    have hc : cls = .ref (c.cx e) := xr.1
    cases q2 : isA e with
    | none => rw [q2] at p; exact p.elim
    | some b =>
      rw [q2] at p
      refine ⟨b, by rw [hc]; exact hisA e b q2, fun hbt a haN => ?_, fun hbf => ?_⟩
      · subst hbt
        dsimp only at p
        by_cases hi2 : i < s'.env.length
        · rw [if_pos hi2] at p
          refine ⟨G', φ', _, S'.ofW.toSuite hi2 xr, ?_⟩
          cases q3 : ms { s' with ex := some (e, fs), env := s'.env.set i none } with
          | nx s2 => rw [q3] at p; exact fun σ2 G2 φ2 H2 g2 S2 => p _ G2 φ2 H2 (g.trans g2) S2.ofSuite
          | rt d s2 => rw [q3] at p; exact fun v σ2 G2 φ2 H2 g2 S2 r => p v _ G2 φ2 H2 (g.trans g2) S2.ofSuite r
          | bk s2 => rw [q3] at p; exact fun σ2 G2 φ2 H2 g2 S2 => p _ G2 φ2 H2 (g.trans g2) S2.ofSuite
          | ct s2 => rw [q3] at p; exact fun σ2 G2 φ2 H2 g2 S2 => p _ G2 φ2 H2 (g.trans g2) S2.ofSuite
          | exc e2 fs2 s2 => rw [q3] at p; exact p.elim
          | no => rw [q3] at p; exact p.elim
        · rw [if_neg hi2] at p
          exact p.elim
      · subst hbf
        exact p cls dd σ' G' φ' H' g S'.ofW xr
theorem ds_try (hisA : ∀ e b, isA e = some b → PySem.W.exmOne X.K (.ref (c.cx e)) cV = some b) (hcls : Names X x cV) (tk : Takes X c.W)
    (hb : ∀ (W : WX) (pn : List (Addr × Obj)) (xe : Value → Shared → Prop), Takes (X.tr pn xe) W → PassesOwn (model X.prog X.w) X.A X.env xe → DSs (X.tr pn xe) { c with W := W } body mbd)
    (hsu : ∀ (a : Addr) (oe : Obj) (cls : Value) (d : Option Addr) (pn : List (Addr × Obj)), Zc cls d oe → (∃ vs, oe.data = .fields vs) → DSs (X.suite a ((a, oe) :: pn)) { c with W := fun _ _ _ _ => False } (b₀ :: suite) ms)
    (hs : X.stack = X.env :: X.outer := by rfl) (hf : X.env.frame = some X.env.locals := by rfl) :
    DSt X c (.Try body [.ExceptHandler (some (.Name x np)) none (b₀ :: suite) pos'] [] [] pos) (sTry isA mbd ms) := ps_imp (ps_try_only (tb := fun W => rdS X.K { c with W := W } mbd) (ts := fun a cls d => rdS X.K { c with W := fun _ _ _ _ => False } ms) hs hf hcls tk hb hsu) fun D σ H h => by
  obtain ⟨G, φ, s, S, p⟩ := h
  refine ⟨G, φ, s, S.withW _, ?_⟩
  unfold sTry at p
  cases q : mbd s with
  | nx s' => rw [q] at p; exact fun σ' G' φ' H' g S' => p σ' G' φ' H' g S'.ofW
  | rt d s' => rw [q] at p; exact fun v σ' G' φ' H' g S' r => p v σ' G' φ' H' g S'.ofW r
  | bk s' => rw [q] at p; exact fun σ' G' φ' H' g S' => p σ' G' φ' H' g S'.ofW
  | ct s' => rw [q] at p; exact fun σ' G' φ' H' g S' => p σ' G' φ' H' g S'.ofW
  | no => rw [q] at p; exact p
  | exc e fs s' =>
    rw [q] at p
    dsimp only at p
    intro cls dd σ' G' φ' H' g S' xr
    have hc : cls = .ref (c.cx e) := xr.1
    cases q2 : isA e with
    | none => rw [q2] at p; exact p.elim
    | some b =>
      rw [q2] at p
      refine ⟨b, by rw [hc]; exact hisA e b q2, fun hbt a haN => ?_, fun hbf => ?_⟩
      · subst hbt
        dsimp only at p
        refine ⟨G', φ', s', S'.ofW.withW _, ?_⟩
        cases q3 : ms s' with
        | nx s2 => rw [q3] at p; exact fun σ2 G2 φ2 H2 g2 S2 => p σ2 G2 φ2 H2 (g.trans g2) S2.ofW
        | rt d s2 => rw [q3] at p; exact fun v σ2 G2 φ2 H2 g2 S2 r => p v σ2 G2 φ2 H2 (g.trans g2) S2.ofW r
        | bk s2 => rw [q3] at p; exact fun σ2 G2 φ2 H2 g2 S2 => p σ2 G2 φ2 H2 (g.trans g2) S2.ofW
        | ct s2 => rw [q3] at p; exact fun σ2 G2 φ2 H2 g2 S2 => p σ2 G2 φ2 H2 (g.trans g2) S2.ofW
        | exc e2 fs2 s2 => rw [q3] at p; exact p.elim
        | no => rw [q3] at p; exact p.elim
      · subst hbf
        exact p cls dd σ' G' φ' H' g S'.ofW xr
/-- n.f in the suite -/
def mXf (code : Nat) (f : Str) : DS → ER D := fun s => match s.ex with
  | some (e, fs) => if e = code then match fs.lookup f with
      | some d => .ok (.p d) s
      | none => .no
    else .no
  | none => .no
theorem lookup_paired {K : PySem.W.Frag} {G : Hp} : ∀ {vs : List (Str × V)} {fs : Fields} {f : Str} {d : PD}, Paired (fun (p : Str × V) (q : Str × PD) => p.1 = q.1 ∧ Rp K G p.2 q.2) vs fs → fs.lookup f = some d → ∃ v, vs.lookup f = some v ∧ Rp K G v d
  | _, _, f, d, .nil, e => by cases e
  | _, _, f, d, @Paired.cons _ _ _ (a, v) (b, d') vs fs ⟨r1, r2⟩ t, e => by
    have r1' : a = b := r1
    subst r1'
    unfold List.lookup at e ⊢
    by_cases h : f == a
    · rw [h] at e ⊢
      cases Option.some.inj e
      exact ⟨v, rfl, r2⟩
    · have h' : (f == a) = false := by simpa using h
      rw [h'] at e ⊢
      exact lookup_paired t e
theorem de_xf {a C : Addr} {oe : Obj} {cls : Value} {d : Option Addr} {pn : List (Addr × Obj)} {f : Str} {code : Nat} {p2 : Pos} (T : XfC X.K C) (hno : PySem.W.findIn X.K (.ref C) f = some none) (hz : Zc cls d oe) (hf : ∃ vs, oe.data = .fields vs) (hC : c.cx code = C)
    (hN : X.N[i]? = some n := by rfl) (hv : Vis X.env.scope n := by first | exact Or.inl rfl | exact Or.inr (Or.inl rfl) | exact Or.inr (Or.inr rfl)) (hd : (n == ("__debug__" : Str)) = false := by decide)
    (hcd : (n == ("__classdict__" : Str)) = false := by decide) (hb : attributeBase (.Name n p2) f X.env (eval (.Name n p2) X.env) = eval (.Name n p2) X.env := by rfl) :
    DE (X.suite a ((a, oe) :: pn)) (c.suite i a cls d) (.Attribute (.Name n p2) f pos) (mXf code f) := pe_imp (pe_xf T hno hz hf (pe_var (X := X.suite a ((a, oe) :: pn)) hN hv hd hcd) hb) fun σ H Q h => by
  obtain ⟨G, φ, s, S, p⟩ := h
  unfold mXf at p
  cases q : s.ex with
  | none => rw [q] at p; exact p.elim
  | some z =>
    obtain ⟨e, fs⟩ := z
    rw [q] at p
    dsimp only at p
    by_cases he : e = code
    · rw [if_pos he] at p
      subst he
      cases q2 : fs.lookup f with
      | none => rw [q2] at p; exact p.elim
      | some x =>
        rw [q2] at p
        obtain ⟨j, a', cls', d', h1, h2, h3, h4⟩ := S.ex e fs q
        cases (Option.some.inj h1)
        refine ⟨.ref a, h2, rfl, by rw [h3]; exact congrArg Value.ref hC, ?_⟩
        rcases h4 with ⟨_, h4⟩ | ⟨da, vs, h4, h5, h6⟩
        · subst h4
          cases q2
        · obtain ⟨v, h7, h8⟩ := lookup_paired h6 q2
          exact ⟨da, vs, v, h4, S.gh _ _ h5, h7, Po.ok p Gr.refl S h8⟩
    · rw [if_neg he] at p
      exact p.elim
end
end DL
namespace L2
open PySem PySem.Spec PyProof.Rows
/-- C(e, ..) as a value, C's own __init__ keeping sp -/
def tMkV (C : Addr) (sp : Sp) (ta : TA) : TE := fun σ H Q => ta σ H fun vs H1 => vs.length ≤ 1000 ∧ ∀ a, H1 a = none → sp (.ref a :: vs) (upd H1 a (exo a C none)) (fun v H2 => v = .non ∧ Q (.ref a) H2) (fun _ _ _ => False)
section
variable {X : Cx} {CX : CXT} {x : Str} {C fI : Addr} {k : Nat} {fd : FuncData} {ps : List Str} {sp : Sp} {p pos : Pos} {e : Expr} {es : List Expr} {ta : TA}
/-- the call of the class, its arguments read -/
theorem run_mkV {pins : List (Addr × Obj)} {σ : St} {H1 : Hp} {s1 : Shared} {us : List Value} {vs : List V} {Q : VK} (T : OexC X.K C) (iC : PySem.W.findIn X.K (.ref C) "__init__" = some (some (.ref fI))) (tI : PySem.W.typeIn X.K (.ref fI) = some (.type "function"))
    (F1 : FnOk X.prog X.w X.K X.mg X.base CX k fI fd ps sp) (hr : Room (k + 1) X.A) (hb : Binds X.K fd ps []) (hx : Passes CX X (fun _ _ _ => False)) (I1 : Inv X pins σ H1 s1) (r1 : Vals vs us) (hz : vs.length ≤ 1000)
    (q1 : ∀ a, H1 a = none → sp (.ref a :: vs) (upd H1 a (exo a C none)) (fun v H2 => v = .non ∧ Q (.ref a) H2) (fun _ _ _ => False)) : wpAny (model X.prog X.w) X.A (call (.ref C) us) (EP X pins σ Q) X.xe s1 := by
  obtain ⟨nm, q, N, bs, bm, sn, sub, ab, col, dd, k0, k1, k2, k3, k5, hC, hbm⟩ := T.cls
  obtain ⟨hp, g, dr, tk, os⟩ := s1
  have hn : H1 (hp.objs.size + 1) = none := I1.hok.fresh (Nat.le_succ _)
  have hq := q1 (hp.objs.size + 1) hn
  have I2 : Inv X pins σ (upd H1 (hp.objs.size + 1) (exo (hp.objs.size + 1) C none)) ⟨(hp.push (PySem.W.kdv_tup us)).push (PySem.HandSPX.excO C hp.objs.size), g, dr, tk, os⟩ := I1.laid (t' := tk) (a := hp.objs.size + 1) (o := exo (hp.objs.size + 1) C none)
    (fun b o e => Heap.get?_push_of_some _ (Heap.get?_push_of_some _ e)) (Nat.le_succ _) (exo_ok (t1 := hp.objs.size) (by heap_get))
  have r2 : Vals (V.ref (hp.objs.size + 1) :: vs) (Value.ref (hp.objs.size + 1) :: us) := .cons rfl r1
  have hl : (Value.ref (hp.objs.size + 1) :: us ++ []).length = ps.length := by rw [List.append_nil]; exact r2.length.symm.trans (F1.len _ _ _ _ hq)
  have hb2 := hb ⟨(hp.push (PySem.W.kdv_tup us)).push (PySem.HandSPX.excO C hp.objs.size), g, dr, tk, os⟩ (Value.ref (hp.objs.size + 1) :: us) I2.kIn hl
  rw [List.append_nil] at hb2
  refine wpAny_call (PySem.HandSPX.call_own F.excBase_ValueError (fun Y => PySem.HandSPX.refsVE_contains Y bm hbm) (I1.kIn _ _ hC) (PySem.W.looks_findIn I1.kIn iC) (fun self => PySem.W.bind_fn I1.kIn self tI) (by rw [← Paired.length r1, sizeLine_eq]; omega)
    (codeAny_mono (F1.run _ X.stack _ _ ⟨Value.ref (hp.objs.size + 1) :: us, []⟩ (Value.ref (hp.objs.size + 1) :: us) _ _ (fun _ _ _ => False) (hr.make C us []) (I2.env0.make C us []) hb2 r2 hq) fun r s' hq' => ?_))
  cases r with
  | error er => exact hx pins σ _ _ er s' I2 hq'
  | ok fl =>
    cases fl with
    | ret u =>
      obtain ⟨v, H2, os2, bare2, un2, hok2, rv, ev, q2⟩ := hq'
      subst ev
      exact ⟨rv, .ref (hp.objs.size + 1), H2, I2.call' (ch := []) os2 un2 hok2 bare2 (fun b z => absurd z (by simp)), rfl, q2⟩
    | next => exact False.elim hq'
    | brk => exact False.elim hq'
    | cont => exact False.elim hq'
theorem pe_oexV (T : OexC X.K C) (iC : PySem.W.findIn X.K (.ref C) "__init__" = some (some (.ref fI))) (tI : PySem.W.typeIn X.K (.ref fI) = some (.type "function"))
    (F1 : FnOk X.prog X.w X.K X.mg X.base CX k fI fd ps sp) (hr : Room (k + 1) X.A) (hb : Binds X.K fd ps []) (hx : Passes CX X (fun _ _ _ => False)) (hg : Gl X x) (hm : X.mg x = some (.ref C)) (ha : PA X (e :: es) ta)
    (hdb : (x == ("__debug__" : Str)) = false := by decide) (he : starEach (e :: es) X.env = (false, eval e X.env) :: starEach es X.env := by rfl) (hpl : (backTo pos (starEach es X.env)).any (·.1) = false := by rfl) :
    PE X (.Call (.Name x p) (e :: es) [] pos) (tMkV C sp ta) := ⟨fun pins s σ H Q I h =>
  wpAny_Call_Name_kw (ld_glob I hg hm (PySem.W.callWith_K (h₀ := X.base) I.ok.mod.kin T.kC (thn (ha.run pos pins s σ H _ I h) fun us s1 ⟨vs, H1, I1, r1, hz, q1⟩ => ⟨I1.kIn, run_mkV T iC tI F1 hr hb hx I1 r1 hz q1⟩) he hpl) hdb)⟩
theorem pe_oexV0 (T : OexC X.K C) (iC : PySem.W.findIn X.K (.ref C) "__init__" = some (some (.ref fI))) (tI : PySem.W.typeIn X.K (.ref fI) = some (.type "function"))
    (F1 : FnOk X.prog X.w X.K X.mg X.base CX k fI fd ps sp) (hr : Room (k + 1) X.A) (hb : Binds X.K fd ps []) (hx : Passes CX X (fun _ _ _ => False)) (hg : Gl X x) (hm : X.mg x = some (.ref C))
    (hdb : (x == ("__debug__" : Str)) = false := by decide) : PE X (.Call (.Name x p) [] [] pos) (tMkV C sp tNil) := ⟨fun pins s σ H Q I h =>
  wpAny_Call_Name_kw (ld_glob I hg hm (PySem.W.callWith_K0 I.kIn T.kC (run_mkV T iC tI F1 hr hb hx I .nil (Nat.zero_le _) h.2)) hdb)⟩
end
end L2
namespace L2
open PySem PySem.Spec PyProof.Rows
/-- e.f, e an exception that is a value -/
def tExF (K : PySem.W.Frag) (f : Str) (te : TE) : TE := fun σ H Q => te σ H fun x H1 => ∃ (a C d : Addr) (fs : List (Str × V)) (v : V), x = .ref a ∧ H1 a = some (exo a C (some d)) ∧ H1 d = some (exd d fs) ∧ XfC K C ∧ PySem.W.findIn K (.ref C) f = some none ∧ fs.lookup f = some v ∧ Q v H1
theorem pe_exF {X : Cx} {e : Expr} {te : TE} {f : Str} {pos : Pos} (he : PE X e te) (hb : attributeBase e f X.env (eval e X.env) = eval e X.env := by rfl) : PE X (.Attribute e f pos) (tExF X.K f te) := by
  refine ⟨fun pins s σ H Q I h => attr_of hb (thn (he.run pins s σ H _ I h) fun u s1 ⟨x, H1, I1, rx, a, C, d, fs, v, ex, ea, ed, T, hno, hl, q⟩ => ?_)⟩
  subst ex; obtain rfl : u = Value.ref a := rx; obtain ⟨t1, ha⟩ := exo_at I1.hok ea; obtain ⟨mA, hns, hr⟩ := exd_at I1.hok ed
  obtain ⟨od, ho, hlk⟩ := lookIn_ns hns; obtain ⟨u, hu, ru⟩ := RelO.some_of (v := v) (o := mA f) (by rw [← hl]; exact hr f)
  exact HandSPX.exc_get (od := some od) I1.kIn ⟨ha, rfl, rfl, ho⟩ T.ga T.gg T.exC (PySem.W.findObj_own T.hdC hno rfl (by rw [hlk, hu])) (handed_of ru) ⟨v, H1, I1.tok _, ru, q⟩
/-- what a class must say, so that isinstance asks its instances rightly -/
structure ExcK (K : PySem.W.Frag) (D : Addr) : Prop where
  xf : XfC K D
  c1 : PySem.W.findIn K (.ref D) "__class__" = some (some (.builtin "object.__class__"))
  c2 : PySem.W.specialIn K (.builtin "object.__class__") "__get__" = some (some (.builtin "getset_descriptor.__get__"))
  c3 : PySem.W.takesIn K (.builtin "object.__class__") = some true
  c4 : PySem.W.mroIn K D (.type "object") = some true
theorem ExcK.kitx {K : PySem.W.Frag} {C x : Addr} {ox : Obj} {od : Option Obj} (T : ExcK K C) : PySem.W.KitX K (.ref x) (.ref C) (fun h => PySem.W.InstAt h x ox C od) :=
  PySem.W.kitx_exc (by obtain ⟨cd, hc, _⟩ := PySem.W.any_some T.xf.hdC; rw [hc] <;> rfl) T.xf.ga T.xf.gg T.xf.exC T.c1 T.c2 T.c3 T.c4
/-- isinstance(e, c), e an exception that is a value -/
def rIsV (K : PySem.W.Frag) : List V → Hp → VK → Prop := fun xs H Q => ∃ (a C : Addr) (d : Option Addr) (c : V) (cv : Value) (b : Bool), xs = [.ref a, c] ∧ H a = some (exo a C d) ∧ (∀ dx, d = some dx → ∃ fs, H dx = some (exd dx fs)) ∧ ExcK K C ∧ (∀ u, RelV c u → u = cv) ∧ PySem.W.kitOne K (.ref C) cv = some b ∧ Q (.bl b) H
theorem call_isV {X : Cx} : CallR X (.builtin "isinstance") (rIsV X.K) := by
  intro pins s σ H xs us Q I r ⟨a, C, d, c, cv, b, e1, ea, hd, T, hcv, e, q⟩
  subst e1
  match us, r with
  | [_, _], .cons rx (.cons rt .nil) =>
    cases rx
    obtain rfl := hcv _ rt
    obtain ⟨t1, ha⟩ := exo_at I.hok ea
    have J : ∃ od, PySem.W.InstAt s.heap a { cls := .ref C, dict := d, data := .fields #[.ref t1, .none, .none, .none, .bool false, .none] } C od := by
      cases d with
      | none => exact ⟨none, ha, rfl, rfl, trivial⟩
      | some dx => obtain ⟨fs, ed⟩ := hd dx rfl; obtain ⟨mA, hns, _⟩ := exd_at I.hok ed; obtain ⟨od, ho, _⟩ := lookIn_ns hns; exact ⟨some od, ha, rfl, rfl, ho⟩
    obtain ⟨od, J⟩ := J
    exact PySem.W.kia_one T.kitx I.kIn J e (fun z => nomatch z) fun tk => ⟨.bl b, H, I.kept (t' := tk) fun _ _ z => z, rfl, q⟩
/-- isinstance(n, c), n the exception that the suite holds: its class cls, its dict d -/
def rIsS (K : PySem.W.Frag) (cls : Value) (a : Addr) (d : Option Addr) : List V → Hp → VK → Prop := fun xs H Q => ∃ (D : Addr) (c : V) (cv : Value) (b : Bool), cls = .ref D ∧ xs = [.ref a, c] ∧ ExcK K D ∧ (∀ dx, d = some dx → ∃ fs, H dx = some (.xd fs)) ∧ (∀ u, RelV c u → u = cv) ∧ PySem.W.kitOne K (.ref D) cv = some b ∧ Q (.bl b) H
theorem call_isS {X : Cx} {a : Addr} {cls : Value} {d : Option Addr} {oe : Obj} {pn : List (Addr × Obj)} (hz : Zc cls d oe) (hf : ∃ vs, oe.data = .fields vs) : CallR (X.suite a ((a, oe) :: pn)) (.builtin "isinstance") (rIsS X.K cls a d) := by
  intro pins s σ H xs us Q I r ⟨D, c, cv, b, e0, e1, T, hd, hcv, e, q⟩
  subst e0 e1
  match us, r with
  | [_, _], .cons rx (.cons rt .nil) =>
    cases rx
    obtain rfl := hcv _ rt
    obtain ⟨hget, _⟩ := I.pin (a, oe) (List.mem_append_left _ List.mem_cons_self); obtain ⟨vs, hv⟩ := hf
    have J : ∃ od, PySem.W.InstAt s.heap a oe D od := by
      obtain ⟨oc, od, oda, osl⟩ := oe; obtain ⟨h1, h2⟩ := hz; dsimp only at h1 h2 hv; subst h1 h2 hv
      cases od with
      | none => exact ⟨none, hget, rfl, rfl, trivial⟩
      | some dx =>
        obtain ⟨fs, ed⟩ := hd dx rfl; have hx : ObjOk X.prog X.w H s.heap dx (.xd fs) := I.hok dx _ ed; obtain ⟨mA, hns, _⟩ := hx
        obtain ⟨od, ho, _⟩ := lookIn_ns hns; exact ⟨some od, hget, rfl, rfl, ho⟩
    obtain ⟨od, J⟩ := J
    exact PySem.W.kia_one T.kitx I.kIn J e (fun z => nomatch z) fun tk => ⟨.bl b, H, I.kept (t' := tk) fun _ _ z => z, rfl, q⟩
end L2
namespace DL
open PySem PySem.Spec L2
theorem zip_rev {α β : Type} {l : List α} {r : List β} (h : l.length = r.length) : (l.zip r).reverse = l.reverse.zip r.reverse := by
  rw [List.zip_eq_zipWith, List.zip_eq_zipWith, List.reverse_zipWith h]
/-- C(e, ..) -/
def mMkV (c : Str) (fs : List Str) (n : DS → ER (List D)) : DS → ER D := mb n fun ds s => match frzs fuel s ds with
  | some (xs, s') => if xs.length = fs.length then .ok (.p (.obj c fs.reverse xs.reverse)) s' else .no
  | none => .no
/-- C() -/
def mMkV0 (c : Str) : DS → ER D := fun s => .ok (.p (.obj c [] [])) s
section
variable {X : Cx} {c : DC} {x cn : Str} {C fI : Addr} {k : Nat} {fd : FuncData} {ps fs : List Str} {p pos : Pos} {e : Expr} {es : List Expr} {n : DS → ER (List D)}
theorem de_mkV (T : OexC X.K C) (iC : PySem.W.findIn X.K (.ref C) "__init__" = some (some (.ref fI))) (tI : PySem.W.typeIn X.K (.ref fI) = some (.type "function")) (hno : ∀ f ∈ fs, PySem.W.findIn X.K (.ref C) f = some none)
    (F1 : FnOk X.prog X.w X.K X.mg X.base (L2.CX X.prog X.w) k fI fd ps (spInit X.K fs)) (hr : Room (k + 1) X.A) (hb : Binds X.K fd ps []) (hm : X.mg x = some (.ref C)) (hC : C = He.ga X.K cn) (hfl : fs.length ≤ 1000) (ha : DA X c (e :: es) n) (hg : Gl X x := by rfl)
    (hdb : (x == ("__debug__" : Str)) = false := by decide) (he : starEach (e :: es) X.env = (false, eval e X.env) :: starEach es X.env := by rfl) (hpl : (backTo pos (starEach es X.env)).any (·.1) = false := by rfl) :
    DE X c (.Call (.Name x p) (e :: es) [] pos) (mMkV cn fs n) := pe_imp (pe_oexV T iC tI F1 hr hb passL hg hm ha hdb he hpl) fun σ H Q h => by
  obtain ⟨G, φ, s, S, p⟩ := h
  refine (rd.bind (rel := RDs X.K) S p).mono fun vs H1 ⟨G1, φ1, s1, ds, g1, S1, r1, p1⟩ => ?_
  cases q : frzs fuel s1 ds with
  | none => rw [q] at p1; exact p1.elim
  | some z =>
    obtain ⟨xs, s2⟩ := z
    rw [q] at p1
    dsimp only at p1
    obtain ⟨G2, g2, S2, h2⟩ := frzs_ok fuel ds S1 q
    have r2 := h2 vs r1
    by_cases hl : xs.length = fs.length
    · rw [if_pos hl] at p1
      refine ⟨by rw [paired_length r2, hl]; exact hfl, fun a haN => ?_⟩
      refine ⟨a, C, vs, rfl, by rw [paired_length r2, hl], T, hno, upd_same, fun d hd hne => ⟨rfl, ?_⟩⟩
      have hd1 : H1 d = none := by rw [upd_ne hne] at hd; exact hd
      have eH : upd (upd (upd H1 a (exo a C none)) d (exd d (fs.zip vs).reverse)) a (exo a C (some d)) = upd (upd H1 d (exd d (fs.zip vs).reverse)) a (exo a C (some d)) := by
        funext b
        unfold upd
        by_cases h1 : b = a
        · rw [if_pos h1, if_pos h1]
        · rw [if_neg h1, if_neg h1, if_neg h1]
      rw [eH]
      obtain ⟨S3, g3⟩ := S2.lay (o := exd d (fs.zip vs).reverse) hd1
      have ha3 : (upd H1 d (exd d (fs.zip vs).reverse)) a = none := by rw [upd_ne (Ne.symm hne)]; exact haN
      obtain ⟨S4, g4⟩ := S3.lay (o := exo a C (some d)) ha3
      refine Po.ok p1 (g2.trans (g3.trans g4)) S4 ?_
      have ez : (fs.zip vs).reverse = fs.reverse.zip vs.reverse := zip_rev (by rw [paired_length r2, hl])
      refine Rp.exc (d := some d) (xs := vs.reverse) (by rw [upd_same, hC]) (.inr ⟨d, rfl, ?_⟩) (by rw [List.length_reverse, List.length_reverse, hl]) (Rp.ups (g3.trans g4).g _ (paired_rev r2))
      rw [upd_ne hne, upd_same, ez]
    · rw [if_neg hl] at p1
      exact p1.elim
theorem de_mkV0 (T : OexC X.K C) (iC : PySem.W.findIn X.K (.ref C) "__init__" = some (some (.ref fI))) (tI : PySem.W.typeIn X.K (.ref fI) = some (.type "function"))
    (F1 : FnOk X.prog X.w X.K X.mg X.base (L2.CX X.prog X.w) k fI fd ps (spInit0 X.K)) (hr : Room (k + 1) X.A) (hb : Binds X.K fd ps []) (hm : X.mg x = some (.ref C)) (hC : C = He.ga X.K cn) (hg : Gl X x := by rfl)
    (hdb : (x == ("__debug__" : Str)) = false := by decide) : DE X c (.Call (.Name x p) [] [] pos) (mMkV0 cn) := pe_imp (pe_oexV0 T iC tI F1 hr hb passL hg hm hdb) fun σ H Q h => by
  obtain ⟨G, φ, s, S, p⟩ := h
  refine ⟨Nat.zero_le _, fun a haN => ⟨a, C, rfl, T, upd_same, rfl, ?_⟩⟩
  obtain ⟨S4, g4⟩ := S.lay (o := exo a C none) haN
  exact Po.ok p g4 S4 (Rp.exc (d := none) (xs := []) (by rw [upd_same, hC]) (.inl ⟨rfl, rfl⟩) rfl .nil)
end
/-- e.f; ok: the classes of which it is told -/
def mExF (ok : Str → Bool) (f : Str) (m : DS → ER D) : DS → ER D := mb m fun d s => match d with
  | .p (.obj c ns ds) => if ok c then match (ns.zip ds).lookup f with
      | some x => .ok (.p x) s
      | none => .no
    else .no
  | _ => .no
theorem lookup_zip {K : PySem.W.Frag} {G : Hp} {f : Str} {d : PD} : ∀ {ns : List Str} {vs : List V} {ds : List PD}, Paired (Rp K G) vs ds → (ns.zip ds).lookup f = some d → ∃ v, (ns.zip vs).lookup f = some v ∧ Rp K G v d
  | [], _, _, _, e => by simp [List.lookup] at e
  | _ :: _, _, _, .nil, e => by simp [List.lookup] at e
  | a :: ns, v :: vs, d' :: ds, .cons r t, e => by
    rw [List.zip_cons_cons] at e ⊢
    unfold List.lookup at e ⊢
    cases h : f == a with
    | true =>
      rw [h] at e
      cases Option.some.inj e
      exact ⟨v, rfl, r⟩
    | false =>
      rw [h] at e
      exact lookup_zip t e
section
variable {X : Cx} {c : DC} {f : Str} {pos : Pos} {e : Expr} {m : DS → ER D} {ok : Str → Bool}
theorem de_exF (hX : ∀ cn, ok cn = true → XfC X.K (He.ga X.K cn) ∧ PySem.W.findIn X.K (.ref (He.ga X.K cn)) f = some none) (ha : DE X c e m) (hb : attributeBase e f X.env (eval e X.env) = eval e X.env := by rfl) :
    DE X c (.Attribute e f pos) (mExF ok f m) := pe_imp (pe_exF ha hb) fun σ H Q h => by
  obtain ⟨G, φ, s, S, p⟩ := h
  refine (rd.bind (rel := RD X.K) S p).mono fun v H1 ⟨G1, φ1, s1, d, g1, S1, r1, p1⟩ => ?_
  split at p1
  · rename_i cn ns ds
    split at p1
    · rename_i hk
      obtain ⟨h1, h2⟩ := hX cn hk
      split at p1
      · rename_i y q
        have r' : Rp X.K G1 v (.obj cn ns ds) := r1
        cases r' with
        | @exc a d _ _ xs _ ea ed l pr =>
          rcases ed with ⟨_, hn⟩ | ⟨dx, e1, e2⟩
          · subst hn
            simp [List.lookup] at q
          · subst e1
            obtain ⟨u, h3, h4⟩ := lookup_zip pr q
            exact ⟨a, _, dx, _, u, rfl, S1.gh _ _ ea, S1.gh _ _ e2, h1, h2, h3, Po.ok p1 Gr.refl S1 h4⟩
      · exact p1.elim
    · exact p1.elim
  · exact p1.elim
/-- isinstance(e, C): tab tells it by the class of e -/
def fIsV (tab : Str → Option Bool) : D → DS → ER D := fun d s => match d with
  | .p (.obj c _ _) => match tab c with
    | some b => .ok (.p (.bl b)) s
    | none => .no
  | _ => .no
theorem de_isV {y : Str} {vC : V} {cV : Value} {p p' : Pos} {tab : Str → Option Bool} (hT : ∀ cn b, tab cn = some b → ExcK X.K (He.ga X.K cn) ∧ PySem.W.kitOne X.K (.ref (He.ga X.K cn)) cV = some b) (hy : PE X (.Name y p') (tC vC)) (hv : ∀ u, RelV vC u → u = cV) (ha : DE X c e m)
    (hg : Gl X "isinstance" := by rfl) (hm : X.mg "isinstance" = none := by assumption) (he1 : starEach [.Name y p'] X.env = [(false, eval (.Name y p') X.env)] := by rfl)
    (he : starEach [e, .Name y p'] X.env = (false, eval e X.env) :: starEach [.Name y p'] X.env := by rfl) (hpl : (backTo pos (starEach [.Name y p'] X.env)).any (·.1) = false := by rfl) :
    DE X c (.Call (.Name "isinstance" p) [e, .Name y p'] [] pos) (mb m (fIsV tab)) := by
  refine pe_imp (pe_callB call_isV hg hm (by decide +kernel) (pa_cons ha (pa_cons hy pa_nil he1) he) (by decide) (by decide) he hpl) fun σ H Q h => ?_
  obtain ⟨G, φ, s, S, p⟩ := h
  refine (rd.bind (rel := RD X.K) S p).mono fun v H1 ⟨G1, φ1, s1, d, g1, S1, r1, p1⟩ => ?_
  show rIsV X.K [v, vC] H1 Q
  unfold fIsV at p1
  split at p1
  · rename_i cn ns ds
    split at p1
    · rename_i b q
      obtain ⟨h1, h2⟩ := hT cn b q
      have r' : Rp X.K G1 v (.obj cn ns ds) := r1
      cases r' with
      | @exc a d _ _ xs _ ea ed l pr =>
        refine ⟨a, _, d, vC, cV, b, rfl, S1.gh _ _ ea, fun dx e1 => ?_, h1, hv, h2, Po.ok p1 Gr.refl S1 (.bl b)⟩
        subst e1
        rcases ed with ⟨e2, _⟩ | ⟨dx', e2, e3⟩
        · cases e2
        · cases e2
          exact ⟨_, S1.gh _ _ e3⟩
    · exact p1.elim
  · exact p1.elim
end
end DL
namespace PySem
namespace DKW
open PySem.W PySem.Calls PyProof.Rows PySem.HandSPX
section
variable {M : Model} {A : Around} {E : Value → Shared → Prop} {h : Heap} {g : Array GenState} {d : Drawn} {t : Nat} {os : OsState}
variable {nm q : Str} {C N : Addr} {bs bm bmB : List Value} {hdct : Bool} {sn : List Str} {sub : List Value} {ab : Bool} {col : Option Bool} {dd : Option Addr} {k0 k1 k2 k3 k5 : Option Value} {B newId initId : String}
theorem check_kw (F : ExcBaseFacts B newId initId bmB) (hT : ∀ X : String, bm.contains (.type X) = bmB.contains (.type X)) {rest : List Value} {kw : List (Str × Value)} {Q : Unit → Shared → Prop}
    (hC : h.get? C = some (excClassObj nm q C N bs bm hdct sn sub ab col dd k0 k1 k2 k3 k5 newId)) (hq : Q () ⟨h, g, d, t, os⟩) : wpAny M A (checkBuiltinCall newId ⟨.ref C :: rest, kw⟩) Q E ⟨h, g, d, t, os⟩ := by
  have hB : (Value.ref C :: bm).contains (.type B) = true := by rw [List.contains_cons, hT, F.hasB, Bool.or_true]
  have hS := F.noStar; simp only [checkBuiltinCall, F.newKind, F.newSplit, F.newRow]
  repeat (first | (refine wpAny_loadPart_at hC ?_) | (refine wpAny_isSubtype_exc hC ?_; rw [hB]) | (refine wpAny_staticBase_exc hC ?_) | (refine wpAny_madeBy_exc hC ?_) | (simp only [bne_self_eq_false, Bool.false_eq_true, if_false]) | wp_step)
  exact hq
end
section
variable {prog : Program} {w : World} {A : Around} {E : Value → Shared → Prop} {R : Result → Shared → Prop} {h : Heap} {g : Array GenState} {d : Drawn} {t : Nat} {os : OsState}
variable {nm q : Str} {C N : Addr} {bs bm bmB : List Value} {hdct : Bool} {sn : List Str} {sub : List Value} {ab : Bool} {col : Option Bool} {dd : Option Addr} {k0 k1 k2 k3 k5 : Option Value} {B newId initId : String}
theorem new_kw (F : ExcBaseFacts B newId initId bmB) (hT : ∀ X : String, bm.contains (.type X) = bmB.contains (.type X)) {rest : List Value} {kw : List (Str × Value)}
    (hC : h.get? C = some (excClassObj nm q C N bs bm hdct sn sub ab col dd k0 k1 k2 k3 k5 newId)) (hq : R (.ok (.ret (.ref (h.objs.size + 1)))) ⟨(h.push { cls := .type "tuple", data := .seq rest.toArray }).push { cls := .ref C, data := .fields #[.ref h.objs.size, .none, .none, .none, .bool false, .none] }, g, d, t, os⟩)
    (hrest : rest.length ≤ sizeLine) : codeAny (model prog w) A (.builtin newId ⟨.ref C :: rest, kw⟩) R ⟨h, g, d, t, os⟩ := by
  have hE := F.ends
  have hB : (Value.ref C :: bm).contains (.type B) = true := by rw [List.contains_cons, hT, F.hasB, Bool.or_true]
  have hA : (Value.ref C :: bm).contains (.type "AttributeError") = false := by rw [List.contains_cons, hT, F.noAttr] <;> rfl
  have hN : (Value.ref C :: bm).contains (.type "NameError") = false := by rw [List.contains_cons, hT, F.noName] <;> rfl
  refine codeAny_builtinAt F.entry ?_; unfold Builtin.«BaseException.__new__»; refine wpAt_bind ?_
  show wpAt _ _ _ (stack >>= _) _ _ _
  refine wpAt_bind (wpAt_stack fun p below => wpAt_of_wpAny ?_)
  wp_walk; refine wpAt_of_wpAny ?_; rw [F.owner]
  repeat (first | (with_reducible refine wpAny_madeHere_exc F.canon hC ?_) | (with_reducible refine wpAny_loadPart_at hC ?_) | (with_reducible refine wpAny_isSubtype_exc hC ?_; first | rw [hB] | rw [hA] | rw [hN]) | wp_step)
  show R _ _
  rw [Heap.size_push]; exact hq
theorem type_call_kw (F : ExcBaseFacts B newId initId bmB) (hT : ∀ X : String, bm.contains (.type X) = bmB.contains (.type X)) {rest : List Value} {kw : List (Str × Value)} {fI : Addr} {Q : Fin → Shared → Prop}
    (hC : h.get? C = some (excClassObj nm q C N bs bm hdct sn sub ab col dd k0 k1 k2 k3 k5 newId)) (hi : W.Looks (model prog w) h (typeLookup (.ref C) "__init__") (some (.ref fI))) (hb : ∀ self, W.Looks (model prog w) h (bindSpecial (.ref fI) self) (.ref fI, [self])) (hrest : rest.length ≤ sizeLine)
    (hq : codeAny (model prog w) A (.call (.ref fI) ⟨.ref (h.objs.size + 1) :: rest, kw⟩) (fun r s' => match r with | .ok (.ret v) => v = .none ∧ Q (.done (.ret (.ref (h.objs.size + 1)))) s' | .ok _ => False | .error e => E e s') ⟨(h.push (W.kdv_tup rest)).push (excO C h.objs.size), g, d, t, os⟩) :
    wpAny (model prog w) A (Builtin.«type.__call__» ⟨.ref C :: rest, kw⟩) Q E ⟨h, g, d, t, os⟩ := by
  repeat (first | (with_reducible refine wpAny_loadPart_at hC ?_) | (with_reducible refine wpAny_madeBy_exc hC ?_) | wp_step)
  refine codeAny_call_builtin_code (Code.quiet_builtin _ F.quiet) (check_kw F hT hC (new_kw F hT hC ?_ hrest))
  show wpAny _ _ _ _ _ _
  have k : ∀ b o, h.get? b = some o → ((h.push (W.kdv_tup rest)).push (excO C h.objs.size)).get? b = some o := fun b o z => Heap.get?_push_of_some _ (Heap.get?_push_of_some _ z)
  have hC1 := k _ _ hC; have hG : ((h.push (W.kdv_tup rest)).push (excO C h.objs.size)).get? (h.objs.size + 1) = some (excO C h.objs.size) := by heap_get
  have hCC : (Value.ref C :: bm).contains (.ref C) = true := by simp
  have i1 := hi.keeps k; have b1 := (hb (.ref (h.objs.size + 1))).keeps k; unfold isInstance
  repeat (first | (with_reducible refine wpAny_loadPart_at hG ?_) | (with_reducible refine wpAny_isSubtype_exc hC1 ?_; rw [hCC]) | wp_step)
  show wpAny _ _ (typeLookup (.ref C) _) _ _ _
  refine i1.at (wpAny_holding (wpAny_bind (b1.at (wpAny_bind (wpAny_call (codeAny_mono hq fun r s' z => ?_))))))
  rcases r with e | (v | _ | _ | _) <;> first | exact z | exact z.elim | skip
  obtain ⟨rfl, z⟩ := z
  first | exact wpAny_pure (wpAny_pure z) | (wp_walk; exact z)
theorem call_kw (F : ExcBaseFacts B newId initId bmB) (hT : ∀ X : String, bm.contains (.type X) = bmB.contains (.type X)) {rest : List Value} {kw : List (Str × Value)} {fI : Addr}
    (hC : h.get? C = some (excClassObj nm q C N bs bm hdct sn sub ab col dd k0 k1 k2 k3 k5 newId)) (hi : W.Looks (model prog w) h (typeLookup (.ref C) "__init__") (some (.ref fI))) (hb : ∀ self, W.Looks (model prog w) h (bindSpecial (.ref fI) self) (.ref fI, [self])) (hrest : rest.length ≤ sizeLine)
    (hq : codeAny (model prog w) (A.under (.builtin "type.__call__" ⟨.ref C :: rest, kw⟩)) (.call (.ref fI) ⟨.ref (h.objs.size + 1) :: rest, kw⟩) (W.InitBack (h.objs.size + 1) R) ⟨(h.push (W.kdv_tup rest)).push (excO C h.objs.size), g, d, t, os⟩) :
    codeAny (model prog w) A (.call (.ref C) ⟨rest, kw⟩) R ⟨h, g, d, t, os⟩ := by
  have f1 := tc_lookup; have f2 := tc_bind (.ref C)
  have hTy : (⟨h, g, d, t, os⟩ : Shared).TypeIs (.ref C) "type" := ⟨_, hC, rfl⟩
  refine codeAny_of_tree ?_
  show wpAny _ _ (callAny (.ref C) _) _ _ _
  repeat (any_goals (first | assumption | (with_reducible refine wpAny_loadPart_at hC ?_) | wp_step))
  refine ⟨rfl, codeAny_call_builtin_at (Code.quiet_builtin _ (by decide +kernel)) entry_typeCall (wpAny_check_type_call_sub hC (type_call_kw F hT hC hi hb hrest (codeAny_mono hq fun r s' z => ?_)))⟩
  rcases r with e | (v | _ | _ | _) <;> exact z
end
end DKW
end PySem
namespace L2
open PySem PySem.Spec PyProof.Rows
section
variable {X : Cx} {e : Expr} {es : List Expr} {ta : TA} {p1 p2 pos : Pos}
/-- R.__init__(self, ..), R an own class that has ValueError's -/
theorem pe_rinit {pl : Sem Bool} {R : Addr} {y : Str} (hg : Gl X y) (hm : X.mg y = some (.ref R)) (rg : PySem.W.specialIn X.K (.ref R) "__getattribute__" = some (some (.builtin "type.__getattribute__"))) (rt : PySem.W.typeIn X.K (.ref R) = some (.type "type"))
    (rr : PySem.W.readsIn X.K R (.type "type") = true) (rv : PySem.W.findCls X.K (.ref R) (.type "type") "__init__" = some (.val (.builtin "ValueError.__init__"))) (ha : PA X (e :: es) ta)
    (hc : eval (.Call (.Attribute (.Name y p1) "__init__" p2) (e :: es) [] pos) X.env = (do
      let ov ← eval (.Name y p1) X.env
      standAt p2.atName
      let (f, first) ← holding [ov] (getMethod ov "__init__" pl)
      callWith pos f first (backTo pos (starEach (e :: es) X.env)) (backToKw pos (keywordEach [] X.env))) := by rfl)
    (hdb : (y == ("__debug__" : Str)) = false := by decide) (he : starEach (e :: es) X.env = (false, eval e X.env) :: starEach es X.env := by rfl) (hpl : (backTo pos (starEach es X.env)).any (·.1) = false := by rfl) :
    PE X (.Call (.Attribute (.Name y p1) "__init__" p2) (e :: es) [] pos) (tVeI X.K ta) := by
  refine ⟨fun pins s σ H Q I h => PySem.W.methodCall_KW (pl := pl) (ld_glob I hg hm ?_ hdb) hc⟩
  obtain ⟨m, fr⟩ := I.fr
  refine PySem.W.method_of_cls fr I.ok.mod.kin rg (PySem.W.cls_val fr I.ok.mod.kin rt rr rv (by decide +kernel) ?_)
  refine PyProof.Rows.callWith_method1 (thn (ha.run pos pins _ σ H _ (I.tok _) h) fun us s1 ⟨vs, H1, I1, r1, a, C, ws, ev, hl, T, ea, q⟩ => ?_) he hpl
  subst ev
  match us, r1 with
  | _ :: ur, .cons ra rw' =>
    cases ra
    exact oinit_ok T I1 ea (by rw [← Paired.length rw', sizeLine_eq]; omega) fun s' J => ⟨.non, H1, J, rfl, q⟩
end
/-- C(k = v, ..), C's own __init__ keeping sp -/
def tMkK (C : Addr) (n : Nat) (sp : Sp) (gV : List V → List V → List V) (tk : TA) : St → Hp → XK → Prop := fun σ H Q => tk σ H fun zs H1 => zs.length = n ∧ ∀ a, H1 a = none → sp (gV [.ref a] zs) (upd H1 a (exo a C none))
  (fun v H2 => v = .non ∧ ∃ (d : Addr) (fs : List (Str × V)), H2 a = some (exo a C (some d)) ∧ H2 d = some (exd d fs) ∧ H1 d = none ∧ Q (.ref C) (some d) (upd (del H2 a) d (.xd fs))) (fun _ _ _ => False)
section
variable {X : Cx} {CX : CXT} {x : Str} {C fI : Addr} {k : Nat} {fd : FuncData} {ps ks : List Str} {sp : Sp} {p pos : Pos} {kws : List Keyword} {tk : TA} {g : List Value → List Value → List Value} {gV : List V → List V → List V}
theorem pmk_kw (T : OexC X.K C) (iC : PySem.W.findIn X.K (.ref C) "__init__" = some (some (.ref fI))) (tI : PySem.W.typeIn X.K (.ref fI) = some (.type "function"))
    (F1 : FnOk X.prog X.w X.K X.mg X.base CX k fI fd ps sp) (hr : Room (k + 1) X.A) (hb : KBn X.K fd ps 1 ks g gV) (hx : Passes CX X (fun _ _ _ => False)) (hg : Gl X x) (hm : X.mg x = some (.ref C)) (hkw : PK X kws tk)
    (hall : (backToKw pos (keywordEach kws X.env)).all (·.1.isSome) = true := by rfl) (hks : (backToKw pos (keywordEach kws X.env)).filterMap (·.1) = ks := by rfl) (hdb : (x == ("__debug__" : Str)) = false := by decide)
    (hpl : ((backTo pos (starEach [] X.env)).any (·.1) || (backToKw pos (keywordEach kws X.env)).any (·.1.isNone)) = false := by rfl) : PMk X (.Call (.Name x p) [] kws pos) (tMkK C ks.length sp gV tk) := by
  intro pins s σ H Q I h
  obtain ⟨nm, q, N, bs, bm, sn, sub, ab, col, dd, k0, k1, k2, k3, k5, hC, hbm⟩ := T.cls
  refine wpAny_Call_Name_kw (ld_glob I hg hm (PySem.W.callWith_KW0 (h₀ := X.base) I.ok.mod.kin T.kC hall (thn (hkw.run pos pins s σ H _ I h) fun ws s2 ⟨zs, H1, I1, rz, l2, q1⟩ => ⟨I1.kIn, ?_⟩) hpl) hdb)
  rw [hks]
  obtain ⟨hp, g0, dr, tk0, os⟩ := s2
  have hsz : hp.objs.size ≤ hp.objs.size + 1 := Nat.le_succ _; have hn : H1 (hp.objs.size + 1) = none := I1.hok.fresh hsz; have hq := q1 (hp.objs.size + 1) hn
  have kk : ∀ b o, hp.get? b = some o → ((hp.push (PySem.W.kdv_tup [])).push (PySem.HandSPX.excO C hp.objs.size)).get? b = some o := fun b o z => Heap.get?_push_of_some _ (Heap.get?_push_of_some _ z)
  have I2 : Inv X pins σ (upd H1 (hp.objs.size + 1) (exo (hp.objs.size + 1) C none)) ⟨(hp.push (PySem.W.kdv_tup [])).push (PySem.HandSPX.excO C hp.objs.size), g0, dr, tk0, os⟩ := I1.laid (t' := tk0) (a := hp.objs.size + 1) (o := exo (hp.objs.size + 1) C none) kk hsz (exo_ok (t1 := hp.objs.size) (by heap_get))
  have hw : ws.length = ks.length := rz.length.symm.trans l2
  have hbt := hb.to ⟨(hp.push (PySem.W.kdv_tup [])).push (PySem.HandSPX.excO C hp.objs.size), g0, dr, tk0, os⟩ [Value.ref (hp.objs.size + 1)] ws I2.kIn rfl hw
  have r2 := hb.rel (vs := [V.ref (hp.objs.size + 1)]) (us := [Value.ref (hp.objs.size + 1)]) (.cons rfl .nil) rz
  refine wpAny_call (PySem.DKW.call_kw F.excBase_ValueError (fun Y => PySem.HandSPX.refsVE_contains Y bm hbm) (I1.kIn _ _ hC) (PySem.W.looks_findIn I1.kIn iC) (fun self => PySem.W.bind_fn I1.kIn self tI) (Nat.zero_le _)
    (codeAny_mono (F1.run _ X.stack _ _ ⟨[Value.ref (hp.objs.size + 1)], ks.zip ws⟩ _ _ _ (fun _ _ _ => False) (hr.make C [] (ks.zip ws)) (I2.env0.make C [] (ks.zip ws)) hbt r2 hq) fun r s' hq' => ?_))
  cases r with
  | error er => exact hx pins σ _ _ er s' I2 hq'
  | ok fl =>
    cases fl with
    | ret u =>
      obtain ⟨v, H2, os2, bare2, un2, hok2, rv, ev, d, fs, ea, ed, hd1, q2⟩ := hq'
      subst ev; obtain ⟨h2, g2, d2, t2, os'⟩ := s'
      exact ⟨rv, mk_end (raises_own T.exC T.tyC) I1 hsz kk un2 hok2 os2 bare2 ea ed hd1 q2⟩
    | next => exact False.elim hq'
    | brk => exact False.elim hq'
    | cont => exact False.elim hq'
end
end L2
namespace L2
open PySem PySem.Spec PyProof.Rows
/-- C(), C an own exception class without own __init__ -/
theorem pe_excN {X : Cx} {C : Addr} {bmB : List Value} {B newId initId : String} {x : Str} {p pos : Pos} (F : ExcBaseFacts B newId initId bmB) (q : PySem.W.excIn X.K C bmB newId = true) (gC : X.mg x = some (.ref C)) (kC : PySem.W.keepIn X.K (.ref C) = true) (hg : Gl X x)
    (hdb : (x == ("__debug__" : Str)) = false := by decide) : PE X (.Call (.Name x p) [] [] pos) (fun σ H Q => ∀ a, H a = none → Q (.ref a) (upd H a (exo a C none))) := by
  refine ⟨fun pins s σ H Q I h => wpAny_Call_Name_kw (ld_glob I hg gC (PySem.W.callWith_K0 I.kIn kC ?_) hdb)⟩
  show wpAny _ _ (call (.ref C) []) _ _ _
  obtain ⟨bm, N, nm, qn, bs, hdct, sn, sub, ab, col, dd, k0, k1, k2, k3, k5, mN, hC, hN, hni, T⟩ := exc_obj I.kIn q
  refine wpAny_call_exc_subT F T hC hN hni (fun h' a hm => ?_) (Nat.zero_le _)
  have hn : H a = none := I.hok.gone hm.new
  obtain ⟨t, ht, _, _⟩ := hm.there
  exact ⟨.ref a, upd H a (exo a C none), I.laidN hm.keeps hm.new hn (exo_ok ht), rfl, h a hn⟩
end L2
namespace DL
open PySem PySem.Spec L2
theorem de_mkN {X : Cx} {c : DC} {cn : Str} {C : Addr} {bmB : List Value} {B newId initId : String} {x : Str} {p pos : Pos} (F : ExcBaseFacts B newId initId bmB) (q : PySem.W.excIn X.K C bmB newId = true) (gC : X.mg x = some (.ref C)) (kC : PySem.W.keepIn X.K (.ref C) = true) (hC : C = He.ga X.K cn) (hg : Gl X x := by rfl)
    (hdb : (x == ("__debug__" : Str)) = false := by decide) : DE X c (.Call (.Name x p) [] [] pos) (mMkV0 cn) := pe_imp (pe_excN F q gC kC hg hdb) fun σ H Q h => by
  obtain ⟨G, φ, s, S, p⟩ := h
  intro a haN
  obtain ⟨S4, g4⟩ := S.lay (o := exo a C none) haN
  exact Po.ok p g4 S4 (Rp.exc (d := none) (xs := []) (by rw [upd_same, hC]) (.inl ⟨rfl, rfl⟩) rfl .nil)
/-- isinstance(n, C) in the suite that holds n: tab tells it by the exception's class -/
def mIsS (tab : Nat → Option Bool) : DS → ER D := fun s => match s.ex with
  | some (e, _) => match tab e with
    | some b => .ok (.p (.bl b)) s
    | none => .no
  | none => .no
theorem de_isS {X : Cx} {c : DC} {n y : Str} {vC : V} {cV : Value} {p p' p2 pos : Pos} {i : Nat} {tab : Nat → Option Bool} {a : Addr} {oe : Obj} {cls : Value} {d : Option Addr} {pn : List (Addr × Obj)}
    (hT : ∀ e b, tab e = some b → ExcK X.K (c.cx e) ∧ PySem.W.kitOne X.K (.ref (c.cx e)) cV = some b) (hz : Zc cls d oe) (hf : ∃ vs, oe.data = .fields vs) (hy : PE (X.suite a ((a, oe) :: pn)) (.Name y p') (tC vC)) (hv : ∀ u, RelV vC u → u = cV)
    (hN : X.N[i]? = some n := by rfl) (hvis : Vis X.env.scope n := by first | exact Or.inl rfl | exact Or.inr (Or.inl rfl) | exact Or.inr (Or.inr rfl)) (hd : (n == ("__debug__" : Str)) = false := by decide) (hcd : (n == ("__classdict__" : Str)) = false := by decide)
    (hg : Gl X "isinstance" := by rfl) (hm : X.mg "isinstance" = none := by assumption) (he1 : starEach [.Name y p'] X.env = [(false, eval (.Name y p') X.env)] := by rfl)
    (he : starEach [.Name n p2, .Name y p'] X.env = (false, eval (.Name n p2) X.env) :: starEach [.Name y p'] X.env := by rfl) (hpl : (backTo pos (starEach [.Name y p'] X.env)).any (·.1) = false := by rfl) :
    DE (X.suite a ((a, oe) :: pn)) (c.suite i a cls d) (.Call (.Name "isinstance" p) [.Name n p2, .Name y p'] [] pos) (mIsS tab) := by
  refine pe_imp (pe_callB (X := X.suite a ((a, oe) :: pn)) (call_isS hz hf) hg hm (by decide +kernel) (pa_cons (pe_var (X := X.suite a ((a, oe) :: pn)) (i := i) hN hvis hd hcd) (pa_cons hy pa_nil he1) he) (by decide) (by decide) he hpl) fun σ H Q h => ?_
  obtain ⟨G, φ, s, S, p⟩ := h
  unfold mIsS at p
  cases q : s.ex with
  | none => rw [q] at p; exact p.elim
  | some z =>
    obtain ⟨e, fs⟩ := z
    rw [q] at p
    dsimp only at p
    cases q2 : tab e with
    | none => rw [q2] at p; exact p.elim
    | some b =>
      rw [q2] at p
      obtain ⟨h5, h6⟩ := hT e b q2
      obtain ⟨j, a', cls', d', h1, h2, h3, h4⟩ := S.ex e fs q
      cases (Option.some.inj h1)
      refine ⟨.ref a, h2, ?_⟩
      show rIsS X.K cls a d [.ref a, vC] H Q
      refine ⟨_, vC, cV, b, h3, rfl, h5, fun dx e1 => ?_, hv, h6, Po.ok p Gr.refl S (.bl b)⟩
      rcases h4 with ⟨h4, _⟩ | ⟨da, vs, h4, h7, _⟩
      · rw [h4] at e1; cases e1
      · rw [h4] at e1
        cases e1
        exact ⟨vs, S.gh _ _ h7⟩
end DL
namespace L2
open PySem PySem.Spec PyProof.Rows
abbrev Clause : Type := Value × Option Nat × (Addr → Value → Option Addr → TS)
/-- the ends of a suite behind which the slot i is emptied -/
def Ends.without (D : Ends) (i : Nat) : Ends := { nx := fun σ' H' => D.nx (σ'.set i none) H', rt := D.rt, bk := fun σ' H' => D.bk (σ'.set i none) H', ct := fun σ' H' => D.ct (σ'.set i none) H' }
def wMix (K : PySem.W.Frag) (Wout : WX) (D : Ends) : List Clause → WX
  | [] => Wout
  | (c, none, ts) :: r => fun cls d σ H => ∃ b, PySem.W.exmOne K cls c = some b ∧ (b = true → ∀ a, H a = none → ts a cls d D σ H) ∧ (b = false → wMix K Wout D r cls d σ H)
  | (c, some i, ts) :: r => fun cls d σ H => ∃ b, PySem.W.exmOne K cls c = some b ∧ (b = true → ∀ a, H a = none → ts a cls d (D.without i) (σ.set i (some (.ref a))) H) ∧ (b = false → wMix K Wout D r cls d σ H)
inductive HdsMix (X : Cx) : List ExceptHandler → List Clause → Prop
  | nil : HdsMix X [] []
  | bare {x : Str} {c : Value} {ts : Addr → Value → Option Addr → TS} {b₀ : Stmt} {suite : List Stmt} {np pos' : Pos} {hds : List ExceptHandler} {l : List Clause} : Names X x c →
      (∀ (a : Addr) (oe : Obj) (cls : Value) (d : Option Addr) (pn : List (Addr × Obj)), Zc cls d oe → (∃ vs, oe.data = .fields vs) → PSs (X.suite a ((a, oe) :: pn)) (b₀ :: suite) (ts a cls d)) → HdsMix X hds l →
      HdsMix X (.ExceptHandler (some (.Name x np)) none (b₀ :: suite) pos' :: hds) ((c, none, ts) :: l)
  | named {x n : Str} {i : Nat} {c : Value} {ts : Addr → Value → Option Addr → TS} {b₀ : Stmt} {suite : List Stmt} {np pos' : Pos} {hds : List ExceptHandler} {l : List Clause} : Names X x c → X.N[i]? = some n → X.env.kindOf n = some .local →
      (∀ (a : Addr) (oe : Obj) (cls : Value) (d : Option Addr) (pn : List (Addr × Obj)), Zc cls d oe → (∃ vs, oe.data = .fields vs) → PSs (X.suite a ((a, oe) :: pn)) (b₀ :: suite) (ts a cls d)) → HdsMix X hds l →
      HdsMix X (.ExceptHandler (some (.Name x np)) (some n) (b₀ :: suite) pos' :: hds) ((c, some i, ts) :: l)
section
variable {X : Cx} {body : List Stmt} {h₀ : ExceptHandler} {hds : List ExceptHandler} {l : List Clause} {pos : Pos} {tb : WX → TS} {Wout : WX}
theorem ps_try_mix (hs : X.stack = X.env :: X.outer) (hf : X.env.frame = some X.env.locals) (hN : X.N.Nodup) (tk : Takes X Wout)
    (hb : ∀ (W : WX) (pn : List (Addr × Obj)) (xe : Value → Shared → Prop), Takes (X.tr pn xe) W → PassesOwn (model X.prog X.w) X.A X.env xe → PSs (X.tr pn xe) body (tb W)) (hh : HdsMix X (h₀ :: hds) l) : PS X (.Try body (h₀ :: hds) [] [] pos) (fun D σ H => tb (wMix X.K Wout D l) D σ H) := by
  refine ⟨fun pins s σ H D I h => ?_⟩
  have ok := I.ok; have hfr : X.A.frames = some (X.env :: X.outer) := by rw [ok.frames, hs]
  refine wpAny_Try_except (wpAny_mono ((hb (wMix X.K Wout D l) (X.pn ++ pins) (fun e s₁ => wpAny (model X.prog X.w) X.A (noteFrame e X.env) (fun _ s₂ => wpAny (model X.prog X.w) X.A (setFlight e none) (fun _ s₃ => wpAny (model X.prog X.w) X.A (handleBy e X.env (h₀ :: hds)) (SP X pins D) X.xe s₃) X.xe s₂) X.xe s₁)
    (fun u s' xx => ?_) PassesOwn.looking).run [] s σ H D (I.toTry _) h) (fun f s1 hsp => ?_) (fun e s1 he => he))
  · obtain ⟨a, B, sI, pins', σ', H', cls, d, rfl, J', nb, up, sky, na, os, ag, w⟩ := xx
    have J : Inv X pins σ' H' sI := J'.ofTry ok; have sky' : Sky B (X.env :: X.outer) a (Zc cls d) X.env.locals s'.heap := by rw [← hs]; exact sky
    show wpAny (model X.prog X.w) X.A (noteFrame (.ref a) X.env) _ _ _
    refine Sky.land Zc.steady hfr hf sky' fun h3 fl3 up3 => ?_
    have J3 : Inv X pins σ' H' { s' with heap := h3 } := J.landed nb fl3.1 (up.trans up3) os ag; obtain ⟨oe3, vs3, he3, hz3, hd3⟩ := fl3.there
    have nfr : a ∉ frs (X.env :: X.outer) := fun hm => by
      obtain ⟨_, o', e', hnf⟩ := fl3.2.2.1.mem hm
      rw [he3] at e'; cases e'; exact hnf _ hd3
    have nL : a ≠ X.env.locals := fun z => nfr (List.mem_filterMap.mpr ⟨X.env, List.mem_cons_self, by rw [hf, z]⟩)
    have nF : a ∉ X.fs := fun hm => by
      obtain ⟨e, he, q⟩ := List.mem_filterMap.mp hm; exact nfr (List.mem_filterMap.mpr ⟨e, List.mem_cons_of_mem _ he, q⟩)
    have S3 := J3.suite he3 hd3 na nL nF
    have LT : PySem.W.Looks (model X.prog X.w) h3 (typeOf (.ref a)) cls := fun A Q E s k q => wpAny_typeOf_ref (k _ _ he3) (by rw [hz3.1]; exact q)
    have test : ∀ {x : Str} {c : Value} {np : Pos} {Q : Value → Shared → Prop} {E : Value → Shared → Prop}, Names X x c → Q c { s' with heap := h3 } → wpAny (model X.prog X.w) (X.A.mark (some (.ref a))) (eval (.Name x np) X.env) Q E { s' with heap := h3 } := fun hc q => by
      obtain ⟨hg, hdbg, hm | ⟨hm, hv, hnn⟩⟩ := hc
      · exact ld_glob (X := X.suite a ((a, oe3) :: (X.pn ++ pins))) S3 hg hm q hdbg
      · exact ld_blt (X := X.suite a ((a, oe3) :: (X.pn ++ pins))) S3 hg hm hv q hnn hdbg
    have go : ∀ {hds' : List ExceptHandler} {l' : List Clause}, HdsMix X hds' l' → wMix X.K Wout D l' cls d σ' H' → wpAny (model X.prog X.w) X.A (handleBy (.ref a) X.env hds') (SP X pins D) X.xe { s' with heap := h3 } := by
      intro hds' l' hk
      induction hk with
      | nil =>
        intro w
        obtain ⟨k1, k2, k3, oe, vs, T, oT, ts', he, hz, hd, h1, hr⟩ := id fl3
        refine wpAny_handleBy_nil ?_; unfold PySem.passOn; refine wpAny_bind (wpAny_field he hd h1 ?_)
        rw [if_neg (show ¬ ((Value.ref T == Value.none) = true) from by simp)]
        have fin : wpAny (model X.prog X.w) X.A (setFlight (.ref a) X.env.frame) (fun _ s4 => wpAny (model X.prog X.w) X.A (throw (.ref a) : Sem Flow) (SP X pins D) X.xe s4) X.xe { s' with heap := h3 } := by
          rw [hf]; refine HandSPX.setFlight_upZ fl3 fun h4 hh4 up4 => wpAny_throw (tk _ _ ⟨a, B, sI, pins, σ', H', cls, d, rfl, J, nb, (up.trans up3).trans up4, .inr (.inr (by rw [hs]; exact hh4)), na, os, ag, w⟩)
        first | exact wpAny_bind (wpAny_pure (wpAny_bind fin)) | exact wpAny_bind fin
      | @bare x c ts b₀ suite np pos' hds2 l2 hc hsu r ih =>
        intro ⟨b, hb1, hyes, hno⟩
        refine wpAny_handleBy_cons (codeAny_handlers_test (test hc ((PySem.W.exm_one (M := model X.prog X.w) (J3.kIn) LT hb1).here ?_))) (by intro q; cases q)
        cases b with
        | true =>
          refine codeAny_handlers_suite (HandSPX.lands_againZ fl3 fun h4 fl4 up4 => ?_)
          have J4 : Inv X pins σ' H' { s' with heap := h4 } := J.landed nb fl4.1 ((up.trans up3).trans up4) os ag; obtain ⟨oe4, vs4, he4, hz4, hd4⟩ := fl4.there
          refine wpAny_mono ((hsu a oe4 cls d (X.pn ++ pins) hz4 ⟨_, hd4⟩).run [] _ _ H' _ (J4.suite he4 hd4 na nL nF) (hyes rfl a na)) (fun f s6 hsp => ?_) (fun _ _ z => False.elim z)
          cases f with
          | ret u => obtain ⟨v6, σ6, H6, S6, r6, q6⟩ := hsp; exact ⟨_, _, _, S6.unsuite ok, r6, q6⟩
          | next => obtain ⟨σ6, H6, S6, q6⟩ := hsp; exact ⟨_, _, S6.unsuite ok, q6⟩
          | brk => obtain ⟨σ6, H6, S6, q6⟩ := hsp; exact ⟨_, _, S6.unsuite ok, q6⟩
          | cont => obtain ⟨σ6, H6, S6, q6⟩ := hsp; exact ⟨_, _, S6.unsuite ok, q6⟩
        | false =>
          show wpAny _ X.A (handleBy (.ref a) X.env hds2) _ _ _
          exact ih (hno rfl)
      | @named x n i c ts b₀ suite np pos' hds2 l2 hc hi hln hsu r ih =>
        intro ⟨b, hb1, hyes, hno⟩
        refine wpAny_handleBy_cons (codeAny_handlers_test (test hc ((PySem.W.exm_one (M := model X.prog X.w) (J3.kIn) LT hb1).here ?_))) (by intro q; cases q)
        cases b with
        | true =>
          refine codeAny_handlers_suite_as (HandSPX.lands_againZ fl3 fun h4 fl4 up4 => ?_)
          have J4 : Inv X pins σ' H' { s' with heap := h4 } := J.landed nb fl4.1 ((up.trans up3).trans up4) os ag; obtain ⟨oe4, vs4, he4, hz4, hd4⟩ := fl4.there
          refine store_ok (X := X.suite a ((a, oe4) :: (X.pn ++ pins))) (v := .ref a) (J4.suite he4 hd4 na nL nF) hN hi (.inl hln) rfl (fun s5 S5 => ?_) (.inr hln)
          refine wpAny_mono ((hsu a oe4 cls d (X.pn ++ pins) hz4 ⟨_, hd4⟩).run [] s5 _ H' _ S5 (hyes rfl a na)) (fun f s6 hsp => ?_) (fun _ _ z => False.elim z)
          have out : ∀ {σ6 : St} {H6 : Hp} {Q : Shared → Prop}, Inv (X.suite a ((a, oe4) :: (X.pn ++ pins))) [] σ6 H6 s6 → (∀ s7, Inv X pins (σ6.set i none) H6 s7 → Q s7) → wpAny (model X.prog X.w) X.A (do bindName X.env n .none; unbindBehindTheSuite X.env n pos') (fun _ s7 => Q s7) X.xe s6 :=
            fun S6 hq => gone_ok (S6.unsuite ok) hN hi hln hq
          cases f with
          | ret u => obtain ⟨v6, σ6, H6, S6, r6, q6⟩ := hsp; exact out S6 fun s7 J7 => ⟨_, _, _, J7, r6, q6⟩
          | next => obtain ⟨σ6, H6, S6, q6⟩ := hsp; exact out S6 fun s7 J7 => ⟨_, _, J7, q6⟩
          | brk => obtain ⟨σ6, H6, S6, q6⟩ := hsp; exact out S6 fun s7 J7 => ⟨_, _, J7, q6⟩
          | cont => obtain ⟨σ6, H6, S6, q6⟩ := hsp; exact out S6 fun s7 J7 => ⟨_, _, J7, q6⟩
        | false =>
          show wpAny _ X.A (handleBy (.ref a) X.env hds2) _ _ _
          exact ih (hno rfl)
    exact go hh w
  · cases f with
    | ret u => obtain ⟨v, σ', H', J', r, q⟩ := hsp; exact ⟨v, σ', H', J'.ofTry ok, r, q⟩
    | next => obtain ⟨σ', H', J', q⟩ := hsp; exact wpAny_execs_nil ⟨σ', H', J'.ofTry ok, q⟩
    | brk => obtain ⟨σ', H', J', q⟩ := hsp; exact ⟨σ', H', J'.ofTry ok, q⟩
    | cont => obtain ⟨σ', H', J', q⟩ := hsp; exact ⟨σ', H', J'.ofTry ok, q⟩
end
end L2
namespace DL
open PySem PySem.Spec L2
abbrev DCl : Type := (Nat → Option Bool) × Option Nat × (DS → SR)
def hdl : List DCl → Nat → Fields → DS → SR
  | [], e, fs, s => .exc e fs s
  | (isA, none, su) :: r, e, fs, s => match isA e with
    | some true => outOnly (su s)
    | some false => hdl r e fs s
    | none => .no
  | (isA, some i, su) :: r, e, fs, s => match isA e with
    | some true => if i < s.env.length then outAs i (su { s with ex := some (e, fs), env := s.env.set i none }) else .no
    | some false => hdl r e fs s
    | none => .no
def sTryMix (cl : List DCl) (body : DS → SR) : DS → SR := fun s => match body s with
  | .exc e fs s' => hdl cl e fs s'
  | o => o
inductive DHd (X : Cx) (c : DC) : List ExceptHandler → List DCl → List Clause → Prop
  | nil : DHd X c [] [] []
  | bare {x : Str} {cV : Value} {isA : Nat → Option Bool} {ms : DS → SR} {b₀ : Stmt} {suite : List Stmt} {np pos' : Pos} {hds : List ExceptHandler} {cl : List DCl} {l : List Clause} : (∀ e b, isA e = some b → PySem.W.exmOne X.K (.ref (c.cx e)) cV = some b) → Names X x cV →
      (∀ (a : Addr) (oe : Obj) (cls : Value) (d : Option Addr) (pn : List (Addr × Obj)), Zc cls d oe → (∃ vs, oe.data = .fields vs) → DSs (X.suite a ((a, oe) :: pn)) { c with W := fun _ _ _ _ => False } (b₀ :: suite) ms) → DHd X c hds cl l →
      DHd X c (.ExceptHandler (some (.Name x np)) none (b₀ :: suite) pos' :: hds) ((isA, none, ms) :: cl) ((cV, none, fun _ _ _ => rdS X.K { c with W := fun _ _ _ _ => False } ms) :: l)
  | named {x n : Str} {i : Nat} {cV : Value} {isA : Nat → Option Bool} {ms : DS → SR} {b₀ : Stmt} {suite : List Stmt} {np pos' : Pos} {hds : List ExceptHandler} {cl : List DCl} {l : List Clause} : (∀ e b, isA e = some b → PySem.W.exmOne X.K (.ref (c.cx e)) cV = some b) → Names X x cV → X.N[i]? = some n → X.env.kindOf n = some .local →
      (∀ (a : Addr) (oe : Obj) (cls : Value) (d : Option Addr) (pn : List (Addr × Obj)), Zc cls d oe → (∃ vs, oe.data = .fields vs) → DSs (X.suite a ((a, oe) :: pn)) (c.suite i a cls d) (b₀ :: suite) ms) → DHd X c hds cl l →
      DHd X c (.ExceptHandler (some (.Name x np)) (some n) (b₀ :: suite) pos' :: hds) ((isA, some i, ms) :: cl) ((cV, some i, fun a cls d => rdS X.K (c.suite i a cls d) ms) :: l)
theorem DHd.mix {X : Cx} {c : DC} {hds : List ExceptHandler} {cl : List DCl} {l : List Clause} (h : DHd X c hds cl l) : HdsMix X hds l := by
  induction h with
  | nil => exact .nil
  | bare _ hc hsu _ ih => exact .bare hc hsu ih
  | named _ hc hi hln hsu _ ih => exact .named hc hi hln hsu ih
theorem hdl_ok {X : Cx} {c : DC} {hds : List ExceptHandler} {cl : List DCl} {l : List Clause} (h : DHd X c hds cl l) {W : WX} {G : Hp} {φ : List Addr} {D : Ends} {e : Nat} {fs : Fields} {s' : DS} (p : PoS X.K c (hdl cl e fs s') G φ D) :
    ∀ cls dd σ' G' φ' H', Gr G φ G' φ' → Sim X.K { c with W := W } G' φ' s' σ' H' → XRp X.K c.cx G' cls dd e fs → wMix X.K c.W D l cls dd σ' H' := by
  intro cls dd σ' G' φ' H' g S' xr
  have hc : cls = .ref (c.cx e) := xr.1
  induction h with
  | nil => exact p cls dd σ' G' φ' H' g S'.ofW xr
  | @bare x cV isA ms b₀ suite np pos' hds cl l hisA hn hsu r ih =>
    unfold hdl at p
    cases q2 : isA e with
    | none => rw [q2] at p; exact p.elim
    | some b =>
      rw [q2] at p
      refine ⟨b, by rw [hc]; exact hisA e b q2, fun hbt a haN => ?_, fun hbf => ?_⟩
      · subst hbt
        dsimp only at p
        refine ⟨G', φ', s', S'.ofW.withW _, ?_⟩
        cases q3 : ms s' with
        | nx s2 => rw [q3] at p; exact fun σ2 G2 φ2 H2 g2 S2 => p σ2 G2 φ2 H2 (g.trans g2) S2.ofW
        | rt d s2 => rw [q3] at p; exact fun v σ2 G2 φ2 H2 g2 S2 r => p v σ2 G2 φ2 H2 (g.trans g2) S2.ofW r
        | bk s2 => rw [q3] at p; exact fun σ2 G2 φ2 H2 g2 S2 => p σ2 G2 φ2 H2 (g.trans g2) S2.ofW
        | ct s2 => rw [q3] at p; exact fun σ2 G2 φ2 H2 g2 S2 => p σ2 G2 φ2 H2 (g.trans g2) S2.ofW
        | exc e2 fs2 s2 => rw [q3] at p; exact p.elim
        | no => rw [q3] at p; exact p.elim
      · subst hbf
        exact ih p
  | @named x n i cV isA ms b₀ suite np pos' hds cl l hisA hn hi hln hsu r ih =>
    unfold hdl at p
    cases q2 : isA e with
    | none => rw [q2] at p; exact p.elim
    | some b =>
      rw [q2] at p
      refine ⟨b, by rw [hc]; exact hisA e b q2, fun hbt a haN => ?_, fun hbf => ?_⟩
      · subst hbt
        dsimp only at p
        by_cases hi2 : i < s'.env.length
        · rw [if_pos hi2] at p
          refine ⟨G', φ', _, S'.ofW.toSuite hi2 xr, ?_⟩
          cases q3 : ms { s' with ex := some (e, fs), env := s'.env.set i none } with
          | nx s2 => rw [q3] at p; exact fun σ2 G2 φ2 H2 g2 S2 => p _ G2 φ2 H2 (g.trans g2) S2.ofSuite
          | rt d s2 => rw [q3] at p; exact fun v σ2 G2 φ2 H2 g2 S2 r => p v _ G2 φ2 H2 (g.trans g2) S2.ofSuite r
          | bk s2 => rw [q3] at p; exact fun σ2 G2 φ2 H2 g2 S2 => p _ G2 φ2 H2 (g.trans g2) S2.ofSuite
          | ct s2 => rw [q3] at p; exact fun σ2 G2 φ2 H2 g2 S2 => p _ G2 φ2 H2 (g.trans g2) S2.ofSuite
          | exc e2 fs2 s2 => rw [q3] at p; exact p.elim
          | no => rw [q3] at p; exact p.elim
        · rw [if_neg hi2] at p
          exact p.elim
      · subst hbf
        exact ih p
theorem ds_tryMix {X : Cx} {c : DC} {body : List Stmt} {mbd : DS → SR} {h₀ : ExceptHandler} {hds : List ExceptHandler} {cl : List DCl} {l : List Clause} {pos : Pos} (hN : X.N.Nodup) (tk : Takes X c.W)
    (hb : ∀ (W : WX) (pn : List (Addr × Obj)) (xe : Value → Shared → Prop), Takes (X.tr pn xe) W → PassesOwn (model X.prog X.w) X.A X.env xe → DSs (X.tr pn xe) { c with W := W } body mbd) (hh : DHd X c (h₀ :: hds) cl l)
    (hs : X.stack = X.env :: X.outer := by rfl) (hf : X.env.frame = some X.env.locals := by rfl) : DSt X c (.Try body (h₀ :: hds) [] [] pos) (sTryMix cl mbd) := ps_imp (ps_try_mix (tb := fun W => rdS X.K { c with W := W } mbd) hs hf hN tk hb hh.mix) fun D σ H h => by
  obtain ⟨G, φ, s, S, p⟩ := h
  refine ⟨G, φ, s, S.withW _, ?_⟩
  unfold sTryMix at p
  cases q : mbd s with
  | nx s' => rw [q] at p; exact fun σ' G' φ' H' g S' => p σ' G' φ' H' g S'.ofW
  | rt d s' => rw [q] at p; exact fun v σ' G' φ' H' g S' r => p v σ' G' φ' H' g S'.ofW r
  | bk s' => rw [q] at p; exact fun σ' G' φ' H' g S' => p σ' G' φ' H' g S'.ofW
  | ct s' => rw [q] at p; exact fun σ' G' φ' H' g S' => p σ' G' φ' H' g S'.ofW
  | no => rw [q] at p; exact p
  | exc e fs s' =>
    rw [q] at p
    exact hdl_ok hh p
end DL
namespace DL
open PySem PySem.Spec L2
theorem ve_self {K : PySem.W.Frag} {m : Str} {σ : St} {H : Hp} {a C : Addr} {D : Ends} (h0 : σ[0]? = some (some (.ref a))) (T : OexC K C) (ha : H a = some (exo a C none)) (k : D.nx σ H) : tDrop (tVeI K (tCons (tVar 0) (tCons (tC (.str m)) tNil))) D σ H :=
  ⟨.ref a, h0, a, C, [.str m], rfl, by show 1 ≤ 1000; decide, T, ha, k⟩
theorem init0R {K : PySem.W.Frag} {m : Str} {vs : List V} {H : Hp} {Q : VK} {E : XK} (h : spInit0 K vs H Q E) : tDrop (tVeI K (tCons (tVar 0) (tCons (tC (.str m)) tNil))) { nx := fun _ H' => Q .non H', rt := Q } (L2.start [("self" : Str)] vs) H := by
  obtain ⟨a, C, rfl, T, ha, k⟩ := h
  exact ve_self rfl T ha k
theorem init1R {K : PySem.W.Frag} {m f : Str} {vs : List V} {H : Hp} {Q : VK} {E : XK} (h : spInit K [f] vs H Q E) :
    tSeq (tDrop (tVeI K (tCons (tVar 0) (tCons (tC (.str m)) tNil)))) (tOst K f (tVar 0) (tVar 1)) { nx := fun _ H' => Q .non H', rt := Q } (L2.start [("self" : Str), f] vs) H := by
  have h' := init1 h
  obtain ⟨a, C, xs, rfl, hl, T, hno, ha, k⟩ := h
  exact ve_self rfl T ha h'
theorem init2R {K : PySem.W.Frag} {m f g : Str} {vs : List V} {H : Hp} {Q : VK} {E : XK} (h : spInit K [f, g] vs H Q E) :
    tSeq (tDrop (tVeI K (tCons (tVar 0) (tCons (tC (.str m)) tNil)))) (tSeq (tOst K f (tVar 0) (tVar 1)) (tOst K g (tVar 0) (tVar 2))) { nx := fun _ H' => Q .non H', rt := Q } (L2.start [("self" : Str), f, g] vs) H := by
  have h' := init2 h
  obtain ⟨a, C, xs, rfl, hl, T, hno, ha, k⟩ := h
  exact ve_self rfl T ha h'
/-- raise C(k = v, ..) -/
def sRaiseK (code : Nat) (fs : List Str) (nk : Nat) (prm : {α : Type} → List α → List α) (n : DS → ER (List D)) : DS → SR := eb n fun ds s => match frzs fuel s ds with
  | some (xs, s') => if xs.length = nk ∧ (prm xs).length = fs.length then .exc code (fs.zip (prm xs)).reverse s' else .no
  | none => .no
theorem ds_raiseK {X : Cx} {c : DC} {x : Str} {C fI : Addr} {k code nk : Nat} {fd : FuncData} {ps fs ks : List Str} {p pos rpos : Pos} {kws : List Keyword} {n : DS → ER (List D)} {prm : {α : Type} → List α → List α}
    (hc : X.calm = true) (tk : Takes X c.W) (T : OexC X.K C) (iC : PySem.W.findIn X.K (.ref C) "__init__" = some (some (.ref fI))) (tI : PySem.W.typeIn X.K (.ref fI) = some (.type "function")) (hno : ∀ f ∈ fs, PySem.W.findIn X.K (.ref C) f = some none)
    (F1 : FnOk X.prog X.w X.K X.mg X.base (L2.CX X.prog X.w) k fI fd ps (spInit X.K fs)) (hr : Room (k + 1) X.A) (hb : KBn X.K fd ps 1 ks (fun us ws => us ++ prm ws) (fun vs zs => vs ++ prm zs))
    (hprm : ∀ {G : Hp} {zs : List V} {xs : List PD}, Paired (Rp X.K G) zs xs → Paired (Rp X.K G) (prm zs) (prm xs)) (hm : X.mg x = some (.ref C)) (hC : c.cx code = C) (hkw : DK X c kws n) (hg : Gl X x := by rfl) (hnk : ks.length = nk := by rfl)
    (hall : (backToKw pos (keywordEach kws X.env)).all (·.1.isSome) = true := by rfl) (hks : (backToKw pos (keywordEach kws X.env)).filterMap (·.1) = ks := by rfl) (hdb : (x == ("__debug__" : Str)) = false := by decide)
    (hpl : ((backTo pos (starEach [] X.env)).any (·.1) || (backToKw pos (keywordEach kws X.env)).any (·.1.isNone)) = false := by rfl) :
    DSt X c (.Raise (some (.Call (.Name x p) [] kws pos)) none rpos) (sRaiseK code fs nk prm n) := ps_imp (ps_raise hc tk (pmk_kw T iC tI F1 hr hb passL hg hm hkw hall hks hdb hpl)) fun D σ H h => by
  subst hnk
  obtain ⟨G, φ, s, S, p⟩ := h
  refine (eb_bind (rel := RDs X.K) S p).mono fun vs H1 ⟨G1, φ1, s1, ds, g1, S1, r1, p1⟩ => ?_
  cases q : frzs fuel s1 ds with
  | none => rw [q] at p1; exact p1.elim
  | some z =>
    obtain ⟨xs, s2⟩ := z
    rw [q] at p1
    dsimp only at p1
    obtain ⟨G2, g2, S2, h2⟩ := frzs_ok fuel ds S1 q
    have r2 := h2 vs r1
    by_cases hl : xs.length = ks.length ∧ (prm xs).length = fs.length
    · rw [if_pos hl] at p1
      have r3 : Paired (Rp X.K G2) (prm vs) (prm xs) := hprm r2
      refine ⟨by rw [paired_length r2, hl.1], fun a haN => ?_⟩
      refine ⟨a, C, prm vs, rfl, by rw [paired_length r3, hl.2], T, hno, upd_same, fun d hd hne => ?_⟩
      have hd1 : H1 d = none := by rw [upd_ne hne] at hd; exact hd
      refine ⟨rfl, d, (fs.zip (prm vs)).reverse, upd_same, by rw [upd_ne hne, upd_same], hd1, ?_⟩
      have eH : upd (del (upd (upd (upd H1 a (exo a C none)) d (exd d (fs.zip (prm vs)).reverse)) a (exo a C (some d))) a) d (.xd (fs.zip (prm vs)).reverse) = upd H1 d (.xd (fs.zip (prm vs)).reverse) := by
        funext b
        unfold upd del
        by_cases h1 : b = d
        · rw [if_pos h1, if_pos h1]
        · rw [if_neg h1, if_neg h1]
          by_cases h2 : b = a
          · rw [if_pos h2, h2, haN]
          · rw [if_neg h2]
            show (if b = a then some (exo a C (some d)) else if b = d then some (exd d (fs.zip (prm vs)).reverse) else if b = a then some (exo a C none) else H1 b) = H1 b
            rw [if_neg h2, if_neg h1, if_neg h2]
      rw [eH]
      obtain ⟨S3, g3⟩ := S2.lay (o := .xd (fs.zip (prm vs)).reverse) hd1
      exact p1 (.ref C) (some d) σ _ φ1 _ (g2.trans g3) S3 ⟨by rw [hC], .inr ⟨d, _, rfl, upd_same, paired_rev (paired_zip (Rp.ups g3.g _ r3))⟩⟩
    · rw [if_neg hl] at p1
      exact p1.elim
end DL
namespace DL
open PySem PySem.Spec L2
def sPar3 (i j l : Nat) (n : DS → ER (List D)) : DS → SR := eb n fun ds s => match ds with
  | [d, e, f] => .nx { s with env := ((s.env.set i (some d)).set j (some e)).set l (some f) }
  | _ => .no
theorem ds_par3 {X : Cx} {c : DC} {pos : Pos} {i j l : Nat} {x y z : Str} {a b b2 : Expr} {n : DS → ER (List D)} {px py pz pt : Pos} {kt k2 pt2} (hx0 : Calm c) (hN : X.N.Nodup) (ha : DA X c [a, b, b2] n) (hc : X.calm = true := by rfl) (hi : X.N[i]? = some x := by rfl) (hj : X.N[j]? = some y := by rfl) (hl : X.N[l]? = some z := by rfl)
    (hij : i ≠ j := by decide) (hil : i ≠ l := by decide) (hjl : j ≠ l := by decide) (hx : X.env.scope.names.lookup x = some .local := by rfl) (hy : X.env.scope.names.lookup y = some .local := by rfl) (hz : X.env.scope.names.lookup z = some .local := by rfl)
    (hw : swappedStores [.Tuple [.Name x px, .Name y py, .Name z pz] kt pt] (.Tuple [a, b, b2] k2 pt2) X.env = pure (some [x, y, z]) := by rfl)
    (hs : swapsWithSole [.Tuple [.Name x px, .Name y py, .Name z pz] kt pt] (.Tuple [a, b, b2] k2 pt2) pos.line X.env = pure false := by rfl) :
    DSt X c (.Assign [.Tuple [.Name x px, .Name y py, .Name z pz] kt pt] (.Tuple [a, b, b2] k2 pt2) pos) (sPar3 i j l n) := ps_imp (ps_par3 hc hN hi hj hl hij hil hjl hx hy hz ha hw hs) fun D σ H h => by
  obtain ⟨G, φ, s, S, p⟩ := h
  refine (eb_bind (rel := RDs X.K) S p).mono fun v H1 ⟨G1, φ1, s1, ds, g1, S1, r1, p1⟩ => ?_
  split at p1
  · rename_i d e f
    obtain ⟨v1, v2, v3, rfl, h1, h2, h3⟩ : ∃ v1 v2 v3, v = [v1, v2, v3] ∧ RD X.K G1 φ1 v1 d ∧ RD X.K G1 φ1 v2 e ∧ RD X.K G1 φ1 v3 f := by
      match v, r1 with
      | [_, _, _], .cons q1 (.cons q2 (.cons q3 .nil)) => exact ⟨_, _, _, rfl, q1, q2, q3⟩
    exact ⟨v1, v2, v3, rfl, p1 _ G1 φ1 H1 Gr.refl (((S1.store h1 (hx0.ne i)).store h2 (hx0.ne j)).store h3 (hx0.ne l))⟩
  · exact p1.elim
end DL
namespace DL
open PySem PySem.Spec L2

theorem deepV_p (k : Nat) (s : DS) (d : PD) : deepV k s (.p d) = some d := by cases k <;> rfl
theorem frz_p (k : Nat) (s : DS) (d : PD) : frz k s (.p d) = some (d, s) := by cases k <;> rfl
theorem frz_ref (k : Nat) (s : DS) (n : Nat) : frz (k + 1) s (.ref n) = match s.cells[n]? with
      | some (.lst l) => match frzW (frz k) s l with
        | some (ds, s') => match s'.cells[n]? with
          | some (.lst _) => some (.lst ds, { s' with cells := s'.cells.set n (.froz (.lst ds)) })
          | _ => none
        | none => none
      | some (.froz d) => some (d, s)
      | none => none := rfl
theorem frzW_nil (f : DS → D → Option (PD × DS)) (s : DS) : frzW f s [] = some ([], s) := rfl
theorem frzW_p (k : Nat) (s : DS) (d : PD) (r : List D) : frzW (frz k) s (.p d :: r) = match frzW (frz k) s r with
      | some (xs, s'') => some (d :: xs, s'')
      | none => none := by
  show (match frz k s (.p d) with
    | some (x, s') => match frzW (frz k) s' r with
      | some (xs, s'') => some (x :: xs, s'')
      | none => none
    | none => none) = _
  rw [frz_p]
theorem frzW_ref (k : Nat) (s : DS) (n : Nat) (r : List D) : frzW (frz k) s (.ref n :: r) = match frz k s (.ref n) with
    | some (x, s') => match frzW (frz k) s' r with
      | some (xs, s'') => some (x :: xs, s'')
      | none => none
    | none => none := rfl
theorem frzW_map (k : Nat) (s : DS) : ∀ l : List PD, frzW (frz k) s (l.map .p) = some (l, s)
  | [] => rfl
  | d :: l => by rw [List.map_cons, frzW_p, frzW_map k s l]
theorem pds_map : ∀ l : List PD, pds (l.map .p) = some l
  | [] => rfl
  | d :: l => by rw [List.map_cons, pds, pds_map l]; rfl
theorem map_p_nil : ([] : List PD).map D.p = [] := rfl
theorem map_p_cons (d : PD) (l : List PD) : (d :: l).map D.p = .p d :: l.map .p := rfl

theorem okq_non (n : Nat) : PD.non.okq n = true := by cases n <;> rfl
theorem okq_bl (n : Nat) (b : Bool) : (PD.bl b).okq n = true := by cases n <;> rfl
theorem okq_int (n : Nat) (i : Int) : (PD.int i).okq n = true := by cases n <;> rfl
theorem okq_str (n : Nat) (x : Str) : (PD.str x).okq n = PySem.PyData.strOk x := by cases n <;> rfl
theorem okq_tup (n : Nat) (l : List PD) : (PD.tup l).okq (n + 1) = PD.okqs n l := by simp only [PD.okq]
theorem okq_lst (n : Nat) (l : List PD) : (PD.lst l).okq (n + 1) = PD.okqs n l := by simp only [PD.okq]
theorem okqs_nil (n : Nat) : PD.okqs n [] = true := by simp only [PD.okqs]
theorem okqs_cons (n : Nat) (d : PD) (l : List PD) : PD.okqs n (d :: l) = (d.okq n && PD.okqs n l) := by simp only [PD.okqs]
/-- the same, where nothing is said of the depth -/
theorem eqF_pp (s : DS) (x y : PD) (hx : x.okq 60 = true) (hy : y.okq 60 = true) (hn : ∀ a b, x = .str a → y = .str b → False) : eqF s (.p x) (.p y) = some (PD.eqv x y) := by
  unfold eqF
  rw [deepV_p, deepV_p]
  dsimp only
  split
  · exact (hn _ _ rfl rfl).elim
  · rw [hx, hy]; rfl
theorem eqF_ss (s : DS) (a b : Str) : eqF s (.p (.str a)) (.p (.str b)) = some (decide (a = b)) := by
  unfold eqF
  rw [deepV_p, deepV_p]
theorem fEq_ii (s : DS) (i j : Int) : fEq (.p (.int i)) (.p (.int j)) s = .ok (.p (.bl (decide (i = j)))) s := by
  unfold fEq
  rw [eqF_pp s _ _ (okq_int _ _) (okq_int _ _) (fun a b h => by cases h)]
  simp only [PD.eqv]
  rw [Bool.beq_eq_decide_eq]
theorem fNe_ii (s : DS) (i j : Int) : fNe (.p (.int i)) (.p (.int j)) s = .ok (.p (.bl (!decide (i = j)))) s := by
  unfold fNe
  rw [eqF_pp s _ _ (okq_int _ _) (okq_int _ _) (fun a b h => by cases h)]
  simp only [PD.eqv]
  rw [Bool.beq_eq_decide_eq]
theorem fEq_ss (s : DS) (a b : Str) : fEq (.p (.str a)) (.p (.str b)) s = .ok (.p (.bl (decide (a = b)))) s := by
  unfold fEq; rw [eqF_ss]
theorem fNe_ss (s : DS) (a b : Str) : fNe (.p (.str a)) (.p (.str b)) s = .ok (.p (.bl (!decide (a = b)))) s := by
  unfold fNe; rw [eqF_ss]
theorem fEq_tt (s : DS) (a b : List PD) (ha : PD.okqs 59 a = true) (hb : PD.okqs 59 b = true) : fEq (.p (.tup a)) (.p (.tup b)) s = .ok (.p (.bl (PD.eqvs a b))) s := by
  unfold fEq
  rw [eqF_pp s _ _ (by rw [okq_tup]; exact ha) (by rw [okq_tup]; exact hb) (fun a b h => by cases h)]
  simp only [PD.eqv]
theorem fNe_tt (s : DS) (a b : List PD) (ha : PD.okqs 59 a = true) (hb : PD.okqs 59 b = true) : fNe (.p (.tup a)) (.p (.tup b)) s = .ok (.p (.bl (!PD.eqvs a b))) s := by
  unfold fNe
  rw [eqF_pp s _ _ (by rw [okq_tup]; exact ha) (by rw [okq_tup]; exact hb) (fun a b h => by cases h)]
  simp only [PD.eqv]
mutual
/-- no truth value within: then == is the equality of data -/
def PD.nb : PD → Bool
  | .bl _ => false
  | .tup l => PD.nbs l
  | .lst l => PD.nbs l
  | .obj _ _ _ => false
  | _ => true
def PD.nbs : List PD → Bool
  | [] => true
  | d :: ds => d.nb && PD.nbs ds
end
mutual
theorem eqv_refl : ∀ a : PD, a.nb = true → PD.eqv a a = true
  | .non, _ => by simp only [PD.eqv]
  | .bl _, _ => by simp [PD.eqv]
  | .int _, _ => by simp [PD.eqv]
  | .str _, _ => by simp [PD.eqv]
  | .tup l, h => by
    simp only [PD.nb] at h
    simp only [PD.eqv]
    exact eqvs_refl l h
  | .lst l, h => by
    simp only [PD.nb] at h
    simp only [PD.eqv]
    exact eqvs_refl l h
  | .obj _ _ _, h => by simp [PD.nb] at h
theorem eqvs_refl : ∀ l : List PD, PD.nbs l = true → PD.eqvs l l = true
  | [], _ => by simp only [PD.eqvs]
  | d :: l, h => by
    simp only [PD.nbs, Bool.and_eq_true] at h
    simp only [PD.eqvs, Bool.and_eq_true]
    exact ⟨eqv_refl d h.1, eqvs_refl l h.2⟩
end
mutual
theorem eqv_eq : ∀ a b : PD, a.nb = true → b.nb = true → PD.eqv a b = true → a = b
  | .non, b, _, hb, h => by cases b <;> first | rfl | (simp [PD.eqv] at h)
  | .bl _, b, ha, _, _ => by simp [PD.nb] at ha
  | .int i, b, _, hb, h => by
    cases b with
    | int j => simp [PD.eqv] at h; rw [h]
    | bl _ => simp [PD.nb] at hb
    | _ => simp [PD.eqv] at h
  | .str i, b, _, hb, h => by
    cases b with
    | str j => simp [PD.eqv] at h; rw [h]
    | _ => simp [PD.eqv] at h
  | .tup l, b, ha, hb, h => by
    cases b with
    | tup l' =>
      simp only [PD.nb] at ha hb
      simp only [PD.eqv] at h
      rw [eqvs_eq l l' ha hb h]
    | _ => simp [PD.eqv] at h
  | .lst l, b, ha, hb, h => by
    cases b with
    | lst l' =>
      simp only [PD.nb] at ha hb
      simp only [PD.eqv] at h
      rw [eqvs_eq l l' ha hb h]
    | _ => simp [PD.eqv] at h
  | .obj _ _ _, b, ha, _, _ => by simp [PD.nb] at ha
theorem eqvs_eq : ∀ a b : List PD, PD.nbs a = true → PD.nbs b = true → PD.eqvs a b = true → a = b
  | [], [], _, _, _ => rfl
  | [], _ :: _, _, _, h => by simp [PD.eqvs] at h
  | _ :: _, [], _, _, h => by simp [PD.eqvs] at h
  | a :: as, b :: bs, ha, hb, h => by
    simp only [PD.nbs, Bool.and_eq_true] at ha hb
    simp only [PD.eqvs, Bool.and_eq_true] at h
    rw [eqv_eq a b ha.1 hb.1 h.1, eqvs_eq as bs ha.2 hb.2 h.2]
end
theorem eqvs_iff (a b : List PD) (ha : PD.nbs a = true) (hb : PD.nbs b = true) [Decidable (a = b)] : PD.eqvs a b = decide (a = b) := by
  by_cases h : a = b
  · subst h
    rw [eqvs_refl a ha, decide_eq_true rfl]
  · rw [decide_eq_false h]
    exact Bool.eq_false_iff.mpr fun q => h (eqvs_eq a b ha hb q)

section
variable {α : Type} {a b c d e : α} {l : List α}
theorem at0 : atI (a :: l) 0 = some a := by
  unfold atI ixN
  rw [if_pos (by decide), if_pos (by rw [List.length_cons]; omega)] <;> rfl
theorem at1 : atI (a :: b :: l) 1 = some b := by
  unfold atI ixN
  rw [if_pos (by decide), if_pos (by simp only [List.length_cons]; omega)] <;> rfl
theorem at2 : atI (a :: b :: c :: l) 2 = some c := by
  unfold atI ixN
  rw [if_pos (by decide), if_pos (by simp only [List.length_cons]; omega)] <;> rfl
theorem at3 : atI (a :: b :: c :: d :: l) 3 = some d := by
  unfold atI ixN
  rw [if_pos (by decide), if_pos (by simp only [List.length_cons]; omega)] <;> rfl
theorem at4 : atI (a :: b :: c :: d :: e :: l) 4 = some e := by
  unfold atI ixN
  rw [if_pos (by decide), if_pos (by simp only [List.length_cons]; omega)] <;> rfl
theorem atNat {l : List α} {i : Nat} {x : α} (h : l[i]? = some x) : atI l (i : Int) = some x := by
  unfold atI ixN
  have hl := (List.getElem?_eq_some_iff.mp h).1
  rw [if_pos (by omega), if_pos (by omega)]
  exact h
end
theorem ix10 : ixN 1 0 = some 0 := rfl
theorem ix20 : ixN 2 0 = some 0 := rfl
theorem ix21 : ixN 2 1 = some 1 := rfl
theorem ix30 : ixN 3 0 = some 0 := rfl
theorem ix31 : ixN 3 1 = some 1 := rfl
theorem ix32 : ixN 3 2 = some 2 := rfl
theorem ix40 : ixN 4 0 = some 0 := rfl
theorem ix41 : ixN 4 1 = some 1 := rfl
theorem ix42 : ixN 4 2 = some 2 := rfl
theorem ix43 : ixN 4 3 = some 3 := rfl
theorem ix50 : ixN 5 0 = some 0 := rfl
theorem ix51 : ixN 5 1 = some 1 := rfl
theorem ix52 : ixN 5 2 = some 2 := rfl
theorem ix53 : ixN 5 3 = some 3 := rfl
theorem ix54 : ixN 5 4 = some 4 := rfl
theorem ix60 : ixN 6 0 = some 0 := rfl
theorem ix61 : ixN 6 1 = some 1 := rfl
theorem ix62 : ixN 6 2 = some 2 := rfl
theorem ix63 : ixN 6 3 = some 3 := rfl
theorem ix64 : ixN 6 4 = some 4 := rfl
theorem ix65 : ixN 6 5 = some 5 := rfl
theorem ix70 : ixN 7 0 = some 0 := rfl
theorem ix71 : ixN 7 1 = some 1 := rfl
theorem ix72 : ixN 7 2 = some 2 := rfl
theorem ix73 : ixN 7 3 = some 3 := rfl
theorem ix74 : ixN 7 4 = some 4 := rfl
theorem ix75 : ixN 7 5 = some 5 := rfl
theorem ix76 : ixN 7 6 = some 6 := rfl
theorem ix80 : ixN 8 0 = some 0 := rfl
theorem ix81 : ixN 8 1 = some 1 := rfl
theorem ix82 : ixN 8 2 = some 2 := rfl
theorem ix83 : ixN 8 3 = some 3 := rfl
theorem ix84 : ixN 8 4 = some 4 := rfl
theorem ix85 : ixN 8 5 = some 5 := rfl
theorem ix86 : ixN 8 6 = some 6 := rfl
theorem ix87 : ixN 8 7 = some 7 := rfl
theorem seqOf_tup (s : DS) (l : List PD) : seqOf s (.p (.tup l)) = some (l.map .p) := rfl
theorem seqOf_lst (s : DS) (l : List PD) : seqOf s (.p (.lst l)) = some (l.map .p) := rfl
theorem seqOf_ref (s : DS) (n : Nat) : seqOf s (.ref n) = match s.cells[n]? with
    | some (.lst l) => some l
    | some (.froz (.lst l)) => some (l.map .p)
    | _ => none := rfl
theorem listOf_lst (s : DS) (l : List PD) : listOf s (.p (.lst l)) = some (l.map .p) := rfl
theorem listOf_ref (s : DS) (n : Nat) : listOf s (.ref n) = match s.cells[n]? with
    | some (.lst l) => some l
    | some (.froz (.lst l)) => some (l.map .p)
    | _ => none := rfl
theorem fIx_tup (s : DS) (l : List PD) (i : Int) : fIx (.p (.tup l)) (.p (.int i)) s = match atI (l.map D.p) i with
    | some x => .ok x s
    | none => .no := rfl
theorem fIx_lst (s : DS) (l : List PD) (i : Int) : fIx (.p (.lst l)) (.p (.int i)) s = match atI (l.map D.p) i with
    | some x => .ok x s
    | none => .no := rfl
theorem fIx_ref (s : DS) (n : Nat) (i : Int) : fIx (.ref n) (.p (.int i)) s = match seqOf s (.ref n) with
      | some l => match atI l i with
        | some x => .ok x s
        | none => .no
      | none => .no := rfl

theorem kit_ii : kitB "int" "int" = some true := by decide +kernel
theorem kit_bi : kitB "bool" "int" = some true := by decide +kernel
theorem kit_ni : kitB "NoneType" "int" = some false := by decide +kernel
theorem kit_si : kitB "str" "int" = some false := by decide +kernel
theorem kit_ti : kitB "tuple" "int" = some false := by decide +kernel
theorem kit_li : kitB "list" "int" = some false := by decide +kernel
theorem kit_ib : kitB "int" "bool" = some false := by decide +kernel
theorem kit_bb : kitB "bool" "bool" = some true := by decide +kernel
theorem kit_nb : kitB "NoneType" "bool" = some false := by decide +kernel
theorem kit_sb : kitB "str" "bool" = some false := by decide +kernel
theorem kit_tb : kitB "tuple" "bool" = some false := by decide +kernel
theorem kit_lb : kitB "list" "bool" = some false := by decide +kernel
theorem kit_it : kitB "int" "tuple" = some false := by decide +kernel
theorem kit_bt : kitB "bool" "tuple" = some false := by decide +kernel
theorem kit_nt : kitB "NoneType" "tuple" = some false := by decide +kernel
theorem kit_st : kitB "str" "tuple" = some false := by decide +kernel
theorem kit_tt : kitB "tuple" "tuple" = some true := by decide +kernel
theorem kit_lt : kitB "list" "tuple" = some false := by decide +kernel
theorem kit_is : kitB "int" "str" = some false := by decide +kernel
theorem kit_bs : kitB "bool" "str" = some false := by decide +kernel
theorem kit_ns : kitB "NoneType" "str" = some false := by decide +kernel
theorem kit_ss : kitB "str" "str" = some true := by decide +kernel
theorem kit_ts : kitB "tuple" "str" = some false := by decide +kernel
theorem kit_ls : kitB "list" "str" = some false := by decide +kernel
theorem kit_il : kitB "int" "list" = some false := by decide +kernel
theorem kit_bl : kitB "bool" "list" = some false := by decide +kernel
theorem kit_nl : kitB "NoneType" "list" = some false := by decide +kernel
theorem kit_sl : kitB "str" "list" = some false := by decide +kernel
theorem kit_tl : kitB "tuple" "list" = some false := by decide +kernel
theorem kit_ll : kitB "list" "list" = some true := by decide +kernel

theorem callF_pure {ms : List Bool} {f : Fn} {ds : List D} {s s' : DS} {xs : List PD} (h : passArgs ms ds s = some (xs, [], s')) : callF ms f ds s = callR s' [] (f xs []) := by
  unfold callF
  rw [h] <;> rfl
theorem pass_nil (s : DS) : passArgs [] [] s = some ([], [], s) := rfl
theorem pass_p (ms : List Bool) (d : PD) (ds : List D) (s : DS) : passArgs (false :: ms) (.p d :: ds) s = match passArgs ms ds s with
      | some (xs, ns, s'') => some (d :: xs, ns, s'')
      | none => none := by
  show (match frz fuel s (.p d) with
    | some (x, s') => match passArgs ms ds s' with
      | some (xs, ns, s'') => some (x :: xs, ns, s'')
      | none => none
    | none => none) = _
  rw [frz_p]
theorem pass_f (ms : List Bool) (n : Nat) (ds : List D) (s : DS) : passArgs (false :: ms) (.ref n :: ds) s = match frz fuel s (.ref n) with
    | some (x, s') => match passArgs ms ds s' with
      | some (xs, ns, s'') => some (x :: xs, ns, s'')
      | none => none
    | none => none := rfl
theorem pass_m (ms : List Bool) (n : Nat) (ds : List D) (s : DS) : passArgs (true :: ms) (.ref n :: ds) s = match passArgs ms ds s with
    | some (xs, ns, s') => some (xs, n :: ns, s')
    | none => none := rfl

theorem Sm.fmod {k : Nat} {i j : Int} (h : j.natAbs < 2 ^ k) (hj : 0 < j) : (i.fmod j).natAbs < 2 ^ k := by
  have h1 := Int.fmod_nonneg_of_pos i hj
  have h2 := Int.fmod_lt_of_pos i hj
  omega
/-- fewer than k bits -/
def Sm (k : Nat) (i : Int) : Prop := i.natAbs < 2 ^ k
theorem Sm.mono {k l : Nat} {i : Int} (h : Sm k i) (hl : k ≤ l) : Sm l i := Nat.lt_of_lt_of_le h (Nat.pow_le_pow_right (by decide) hl)
theorem Sm.log {k : Nat} {i : Int} (h : Sm k i) (hk : 0 < k) : i.natAbs.log2 < k := PySem.Flt.log2_lt_of hk h
theorem Sm.mul {k l : Nat} {i j : Int} (h : Sm k i) (h2 : Sm l j) : Sm (k + l) (i * j) := wide_lt h h2
theorem Sm.add {k : Nat} {i j : Int} (h : Sm k i) (h2 : Sm k j) : Sm (k + 1) (i + j) := by
  unfold Sm at *
  have e : 2 ^ (k + 1) = 2 ^ k + 2 ^ k := by rw [Nat.pow_succ]; omega
  omega
theorem Sm.sub {k : Nat} {i j : Int} (h : Sm k i) (h2 : Sm k j) : Sm (k + 1) (i - j) := by
  unfold Sm at *
  have e : 2 ^ (k + 1) = 2 ^ k + 2 ^ k := by rw [Nat.pow_succ]; omega
  omega
theorem Sm.neg {k : Nat} {i : Int} (h : Sm k i) : Sm k (-i) := by unfold Sm at *; omega
theorem Sm.of_le {k : Nat} {i : Int} {n : Nat} (h : i.natAbs ≤ n) (hn : n < 2 ^ k) : Sm k i := Nat.lt_of_le_of_lt h hn
theorem Sm.le {k : Nat} {i j : Int} (h : Sm k j) (hn : i.natAbs ≤ j.natAbs) : Sm k i := Nat.lt_of_le_of_lt hn h
theorem Sm.one {k : Nat} (hk : 0 < k) : Sm k 1 := by
  have : 2 ^ 1 ≤ 2 ^ k := Nat.pow_le_pow_right (by decide) hk
  unfold Sm
  show 1 < 2 ^ k
  omega
theorem Sm.zero {k : Nat} : Sm k 0 := Nat.pow_pos (by decide)
theorem bigC_of {k l : Nat} {i j : Int} (h : Sm k i) (h2 : Sm l j) (hk : 0 < k) (hl : 0 < l) (hs : k + l ≤ 1000000) : bigC i j = true := by
  have a := h.log hk
  have b := h2.log hl
  exact decide_eq_true (by omega)
theorem divC_of {k : Nat} {i j : Int} (h0 : j ≠ 0) (h : Sm k j) (hk : 0 < k) (hs : k ≤ 9000) : divC i j = true := by
  have a := h.log hk
  unfold divC
  rw [decide_eq_true h0, decide_eq_true (by omega : j.natAbs.log2 < 9000)] <;> rfl

theorem range_1 : List.range 1 = [0] := rfl
theorem range_2 : List.range 2 = [0, 1] := rfl
theorem fEq_same (s : DS) (x : PD) (ho : x.okq 60 = true) (hn : x.nb = true) : fEq (.p x) (.p x) s = .ok (.p (.bl true)) s := by
  by_cases h : ∃ a, x = .str a
  · obtain ⟨a, rfl⟩ := h
    rw [fEq_ss, decide_eq_true rfl]
  · unfold fEq
    rw [eqF_pp s x x ho ho (fun a _ e _ => h ⟨a, e⟩), eqv_refl x hn]
theorem fNe_same (s : DS) (x : PD) (ho : x.okq 60 = true) (hn : x.nb = true) : fNe (.p x) (.p x) s = .ok (.p (.bl false)) s := by
  by_cases h : ∃ a, x = .str a
  · obtain ⟨a, rfl⟩ := h
    rw [fNe_ss, decide_eq_true rfl] <;> rfl
  · unfold fNe
    rw [eqF_pp s x x ho ho (fun a _ e _ => h ⟨a, e⟩), eqv_refl x hn] <;> rfl

theorem loopC_map {n : Nat} {env0 : List (Option D)} {f : D → DS → Option DS} {e : DS → ER D} {g : PD → PD} {cs : List Cell} (hn : cs.length = n) : ∀ (ds : List PD) (acc : List D),
    (∀ d ∈ ds, ∀ acc, ∃ env1 env2, f (.p d) ⟨env0, cs ++ [.lst acc], none⟩ = some ⟨env1, cs ++ [.lst acc], none⟩ ∧ e ⟨env1, cs ++ [.lst acc], none⟩ = .ok (.p (g d)) ⟨env2, cs ++ [.lst acc], none⟩) → acc.length + ds.length ≤ line →
    loopC n env0 f mYes e (ds.map .p) ⟨env0, cs ++ [.lst acc], none⟩ = some ⟨env0, cs ++ [.lst (acc ++ (ds.map g).map .p)], none⟩
  | [], acc, _, _ => by simp [loopC]
  | d :: ds, acc, h, hl => by
    obtain ⟨env1, env2, h1, h2⟩ := h d List.mem_cons_self acc
    have hc : (cs ++ [Cell.lst acc])[n]? = some (.lst acc) := by rw [← hn]; exact at_last
    have hs : (cs ++ [Cell.lst acc]).set n (.lst (acc ++ [.p (g d)])) = cs ++ [.lst (acc ++ [.p (g d)])] := by
      rw [← hn, List.set_append_right _ _ (Nat.le_refl _), Nat.sub_self] <;> rfl
    have hlt : acc.length < line := by rw [List.length_cons] at hl; omega
    have ih := loopC_map (e := e) (g := g) hn ds (acc ++ [.p (g d)]) (fun x hx => h x (List.mem_cons_of_mem _ hx)) (by rw [List.length_append, List.length_singleton]; rw [List.length_cons] at hl; omega)
    rw [List.map_cons]
    unfold loopC
    simp only [h1, mYes, h2, hc, hlt, if_true, hs]
    rw [ih]
    simp [List.append_assoc]
theorem mLc_map {mi : DS → ER (List D)} {f : D → DS → Option DS} {e : DS → ER D} {g : PD → PD} {vs : List Nat} {s s1 : DS} {ds : List PD} (hi : mi s = .ok (ds.map .p) s1) (hx : s1.ex = none)
    (h : ∀ d ∈ ds, ∀ acc, ∃ env1 env2, f (.p d) ⟨wipeE s1.env vs, s1.cells ++ [.lst acc], none⟩ = some ⟨env1, s1.cells ++ [.lst acc], none⟩ ∧ e ⟨env1, s1.cells ++ [.lst acc], none⟩ = .ok (.p (g d)) ⟨env2, s1.cells ++ [.lst acc], none⟩) (hl : ds.length ≤ line) :
    mLc mi f mYes e vs s = .ok (.ref s1.cells.length) ⟨s1.env, s1.cells ++ [.lst ((ds.map g).map .p)], none⟩ := by
  obtain ⟨env, cells, ex⟩ := s1
  cases hx
  unfold mLc mb
  rw [hi]
  dsimp only
  have k := loopC_map (n := cells.length) (env0 := wipeE env vs) (f := f) (e := e) (g := g) (cs := cells) rfl ds [] h (by rw [List.length_nil, Nat.zero_add]; exact hl)
  rw [k] <;> rfl

theorem nc0 : ((0 : Nat) : Int) = 0 := rfl
theorem nc1 : ((1 : Nat) : Int) = 1 := rfl
theorem nc2 : ((2 : Nat) : Int) = 2 := rfl
theorem nc3 : ((3 : Nat) : Int) = 3 := rfl
theorem nc4 : ((4 : Nat) : Int) = 4 := rfl
theorem nc5 : ((5 : Nat) : Int) = 5 := rfl
theorem nc6 : ((6 : Nat) : Int) = 6 := rfl

section
variable {f : D → DS → Option DS} {body : DS → SR} {d : D} {r : List D} {s s1 s2 : DS}
theorem loop_nil : loop f body [] s = .nx s := rfl
theorem loop_nx (h1 : f d s = some s1) (h2 : body s1 = .nx s2) : loop f body (d :: r) s = loop f body r s2 := by
  show (match f d s with
    | none => SR.no
    | some s1 => match body s1 with
      | .nx s2 => loop f body r s2
      | .ct s2 => loop f body r s2
      | .bk s2 => .nx s2
      | o => o) = _
  rw [h1]
  dsimp only
  rw [h2]
theorem loop_ct (h1 : f d s = some s1) (h2 : body s1 = .ct s2) : loop f body (d :: r) s = loop f body r s2 := by
  show (match f d s with
    | none => SR.no
    | some s1 => match body s1 with
      | .nx s2 => loop f body r s2
      | .ct s2 => loop f body r s2
      | .bk s2 => .nx s2
      | o => o) = _
  rw [h1]
  dsimp only
  rw [h2]
theorem loop_bk (h1 : f d s = some s1) (h2 : body s1 = .bk s2) : loop f body (d :: r) s = .nx s2 := by
  show (match f d s with
    | none => SR.no
    | some s1 => match body s1 with
      | .nx s2 => loop f body r s2
      | .ct s2 => loop f body r s2
      | .bk s2 => .nx s2
      | o => o) = _
  rw [h1]
  dsimp only
  rw [h2]
theorem loop_rt {x : D} (h1 : f d s = some s1) (h2 : body s1 = .rt x s2) : loop f body (d :: r) s = .rt x s2 := by
  show (match f d s with
    | none => SR.no
    | some s1 => match body s1 with
      | .nx s2 => loop f body r s2
      | .ct s2 => loop f body r s2
      | .bk s2 => .nx s2
      | o => o) = _
  rw [h1]
  dsimp only
  rw [h2]
/-- one statement of a block, the rest behind it -/
theorem seq_nx {m n : DS → SR} {o : SR} (h : m s = .nx s1) (k : n s1 = o) : sSeq m n s = o := by
  unfold sSeq; rw [h]; exact k
theorem seq_rt {m n : DS → SR} {x : D} (h : m s = .rt x s1) : sSeq m n s = .rt x s1 := by
  unfold sSeq; rw [h]
theorem if_t {t : DS → ER Bool} {m n : DS → SR} {o : SR} (h : t s = .ok true s1) (k : m s1 = o) : sIf t m n s = o := by
  unfold sIf eb; rw [h]; exact k
theorem if_f {t : DS → ER Bool} {m n : DS → SR} {o : SR} (h : t s = .ok false s1) (k : n s1 = o) : sIf t m n s = o := by
  unfold sIf eb; rw [h]; exact k
theorem for_ok {mi : DS → ER (List D)} {items : List D} {o : SR} (h : mi s = .ok items s1) (k : loop f body items s1 = o) : sFor mi f body s = o := by
  unfold sFor eb; rw [h]; exact k
end
end DL
namespace DL
open PySem PySem.Spec L2
def gI (a b : Int) : Int := (Nat.gcd a.natAbs b.natAbs : Nat)
/-- a / b in lowest terms -/
def low (a b : Int) : Int × Int := if b < 0 then (a.fdiv (-(gI a b)), b.fdiv (-(gI a b))) else (a.fdiv (gI a b), b.fdiv (gI a b))
def rat (p : Int × Int) : PD := .tup [.int p.1, .int p.2]
theorem gI_pos {a b : Int} (h : b ≠ 0) : 0 < gI a b := by
  have : 0 < Nat.gcd a.natAbs b.natAbs := Nat.gcd_pos_of_pos_right _ (by omega)
  unfold gI
  omega
theorem gI_dvd (a b : Int) : ∃ k l : Int, a = gI a b * k ∧ b = gI a b * l := by
  have h1 : gI a b ∣ a := Int.ofNat_dvd_left.mpr (Nat.gcd_dvd_left _ _)
  have h2 : gI a b ∣ b := Int.ofNat_dvd_left.mpr (Nat.gcd_dvd_right _ _)
  obtain ⟨k, hk⟩ := h1
  obtain ⟨l, hl⟩ := h2
  exact ⟨k, l, hk, hl⟩
theorem fdiv_neg_mul {g k : Int} (h : 0 < g) : (g * k).fdiv (-g) = -k := by
  have e : g * k = -g * -k := by rw [Int.neg_mul_neg]
  rw [e]
  exact Int.mul_fdiv_cancel_left _ (by omega)
theorem natAbs_le_mul {g k : Int} (h : 0 < g) : k.natAbs ≤ (g * k).natAbs := by
  rw [Int.natAbs_mul]
  exact Nat.le_mul_of_pos_left _ (by omega)
theorem gcd_one_of {g k l : Int} {a b : Int} (hg : 0 < g) (ha : a = g * k) (hb : b = g * l) (e : g = gI a b) : Nat.gcd k.natAbs l.natAbs = 1 := by
  have h : Nat.gcd a.natAbs b.natAbs = g.natAbs * Nat.gcd k.natAbs l.natAbs := by
    rw [ha, hb, Int.natAbs_mul, Int.natAbs_mul, Nat.gcd_mul_left]
  have e' : Nat.gcd a.natAbs b.natAbs = g.natAbs := by
    have := congrArg Int.natAbs e
    unfold gI at this
    rw [Int.natAbs_natCast] at this
    exact this.symm
  rw [e'] at h
  have hp : 0 < g.natAbs := by omega
  have := Nat.eq_of_mul_eq_mul_left hp (h.symm.trans (Nat.mul_one _).symm)
  exact this
/-- what low is -/
theorem low_spec {a b : Int} (h : b ≠ 0) : 0 < (low a b).2 ∧ Nat.gcd (low a b).1.natAbs (low a b).2.natAbs = 1 ∧ a * (low a b).2 = (low a b).1 * b ∧ (low a b).1.natAbs ≤ a.natAbs ∧ (low a b).2.natAbs ≤ b.natAbs := by
  have hg := gI_pos (a := a) h
  obtain ⟨k, l, hk, hl⟩ := gI_dvd a b
  have one := gcd_one_of hg hk hl rfl
  by_cases hb : b < 0
  · have e : low a b = (-k, -l) := by
      unfold low
      rw [if_pos hb]
      have e1 : a.fdiv (-gI a b) = -k := by
        conv => lhs; arg 1; rw [hk]
        exact fdiv_neg_mul hg
      have e2 : b.fdiv (-gI a b) = -l := by
        conv => lhs; arg 1; rw [hl]
        exact fdiv_neg_mul hg
      rw [e1, e2]
    rw [e]
    have l0 : l < 0 := by
      refine Int.lt_of_not_ge fun q => ?_
      have := Int.mul_nonneg (Int.le_of_lt hg) q
      omega
    refine ⟨by show 0 < -l; omega, by simpa using one, ?_, ?_, ?_⟩
    · show a * -l = -k * b
      have e1 : a * -l = -(gI a b * k * l) := by
        conv => lhs; arg 1; rw [hk]
        rw [Int.mul_neg]
      have e2 : -k * b = -(gI a b * k * l) := by
        conv => lhs; arg 2; rw [hl]
        rw [Int.neg_mul, Int.mul_left_comm, Int.mul_assoc]
      rw [e1, e2]
    · show (-k).natAbs ≤ a.natAbs
      rw [Int.natAbs_neg]
      conv => rhs; rw [hk]
      exact natAbs_le_mul hg
    · show (-l).natAbs ≤ b.natAbs
      rw [Int.natAbs_neg]
      conv => rhs; rw [hl]
      exact natAbs_le_mul hg
  · have e : low a b = (k, l) := by
      unfold low
      rw [if_neg hb]
      have e1 : a.fdiv (gI a b) = k := by
        conv => lhs; arg 1; rw [hk]
        exact Int.mul_fdiv_cancel_left _ (by omega)
      have e2 : b.fdiv (gI a b) = l := by
        conv => lhs; arg 1; rw [hl]
        exact Int.mul_fdiv_cancel_left _ (by omega)
      rw [e1, e2]
    rw [e]
    have l0 : 0 < l := by
      refine Int.lt_of_not_ge fun q => ?_
      have := Int.mul_nonneg (Int.le_of_lt hg) (Int.neg_nonneg.mpr q)
      rw [Int.mul_neg] at this
      omega
    refine ⟨l0, one, ?_, ?_, ?_⟩
    · show a * l = k * b
      have e1 : a * l = gI a b * k * l := by
        conv => lhs; arg 1; rw [hk]
      have e2 : k * b = gI a b * k * l := by
        conv => lhs; arg 2; rw [hl]
        rw [Int.mul_left_comm, Int.mul_assoc]
      rw [e1, e2]
    · show k.natAbs ≤ a.natAbs
      conv => rhs; rw [hk]
      exact natAbs_le_mul hg
    · show l.natAbs ≤ b.natAbs
      conv => rhs; rw [hl]
      exact natAbs_le_mul hg
theorem low_one (x : Int) : low x 1 = (x, 1) := by
  have e : gI x 1 = 1 := by
    unfold gI
    have : Nat.gcd x.natAbs (1 : Int).natAbs = 1 := Nat.gcd_one_right _
    rw [this]
    rfl
  unfold low
  rw [if_neg (by decide), e, Int.fdiv_one, Int.fdiv_one]
/-- the law's way: signs first -/
theorem low_abs {a b : Int} (h : b ≠ 0) : low a b = if b < 0 then ((-a).fdiv (gI a b), (-b).fdiv (gI a b)) else (a.fdiv (gI a b), b.fdiv (gI a b)) := by
  have hg := gI_pos (a := a) h
  obtain ⟨k, l, hk, hl⟩ := gI_dvd a b
  unfold low
  by_cases hb : b < 0
  · rw [if_pos hb, if_pos hb]
    have f (x m : Int) (e : x = gI a b * m) : x.fdiv (-gI a b) = (-x).fdiv (gI a b) := by
      rw [e, fdiv_neg_mul hg, ← Int.mul_neg, Int.mul_fdiv_cancel_left _ (by omega)]
    rw [f a k hk, f b l hl]
  · rw [if_neg hb, if_neg hb]
theorem gI_neg (a b : Int) : gI (-a) (-b) = gI a b := by unfold gI; rw [Int.natAbs_neg, Int.natAbs_neg]
end DL
namespace DL
open PySem PySem.Spec L2
def oexB (K : PySem.W.Frag) (C : Addr) : Bool := (match K.lookup C with
  | some ⟨.type "type", _, .cls cd, sl⟩ => (match cd.mro, sl.toList with
    | .ref C' :: bm, [_, _, _, _, some (.builtin n), _] => C' == C && n == "ValueError.__new__" && !cd.hasDel && cd.hasDict && PySem.HandSPX.refsVE bm
    | _, _ => false)
  | _ => false) && (He.eqO (PySem.W.findIn K (.ref C) "__setattr__") (some (some (.builtin "object.__setattr__"))) && (decide (PySem.W.subIn K (.ref C) (.type "BaseException") = some true) && (decide (PySem.W.typeIn K (.ref C) = some (.type "type")) && PySem.W.keepIn K (.ref C))))
theorem oexB_ok {K : PySem.W.Frag} {C : Addr} (h : oexB K C = true) : OexC K C := by
  obtain ⟨q, h⟩ := He.ba h
  obtain ⟨h1, h⟩ := He.ba h
  obtain ⟨h2, h⟩ := He.ba h
  obtain ⟨h3, h4⟩ := He.ba h
  refine ⟨?_, He.eqO_ok h1, of_decide_eq_true h2, of_decide_eq_true h3, h4⟩
  split at q
  · rename_i dd cd sl ho
    split at q
    · rename_i C' bm k0 k1 k2 k3 n k5 hm hs
      simp only [Bool.and_eq_true, beq_iff_eq, Bool.not_eq_true'] at q
      obtain ⟨⟨⟨⟨rfl, rfl⟩, hdel⟩, hdic⟩, hr⟩ := q
      obtain ⟨nm, bs, mro, ns, qn, hd, sn, sub, ab, col, del⟩ := cd
      dsimp only at hm hdel hdic
      subst hm hdel hdic
      have hsl : sl = #[k0, k1, k2, k3, some (.builtin "ValueError.__new__"), k5] := by
        obtain ⟨l⟩ := sl
        simp only at hs
        rw [hs]
      subst hsl
      exact ⟨nm, qn, ns, bs, bm, sn, sub, ab, col, dd, k0, k1, k2, k3, k5, ho, hr⟩
    · cases q
  · cases q
mutual
def rpB (K : PySem.W.Frag) : PD → Value → Bool
  | .non, u => (match u with
    | .none => true
    | _ => false)
  | .bl b, u => (match u with
    | .bool c => b == c
    | _ => false)
  | .int i, u => (match u with
    | .int j _ => decide (i = j)
    | _ => false)
  | .str x, u => (match u with
    | .str y _ => decide (x = y)
    | _ => false)
  | .tup ds, u => (match u with
    | .ref a => (match K.lookup a with
      | some ⟨.type c, _, .seq its _, _⟩ => decide (c = "tuple") && (decide (its.size ≤ sizeLine) && rpBs K ds its.toList)
      | _ => false)
    | _ => false)
  | .lst ds, u => (match u with
    | .ref a => (match K.lookup a with
      | some ⟨.type c, none, .seq its _, _⟩ => decide (c = "list") && (decide (its.size ≤ sizeLine) && rpBs K ds its.toList)
      | _ => false)
    | _ => false)
  | .obj _ _ _, _ => false
def rpBs (K : PySem.W.Frag) : List PD → List Value → Bool
  | [], us => us.isEmpty
  | d :: ds, us => (match us with
    | u :: us => rpB K d u && rpBs K ds us
    | [] => false)
end
mutual
theorem rpB_ok {K : PySem.W.Frag} : ∀ (d : PD) (u : Value), rpB K d u = true → ∃ v, RelV v u ∧ ∀ G, Rp K G v d
  | .non, u, h => by
    simp only [rpB] at h
    cases u with
    | none => exact ⟨.non, rfl, fun _ => .non⟩
    | _ => cases h
  | .bl b, u, h => by
    simp only [rpB] at h
    cases u with
    | bool c =>
      have e : b = c := eq_of_beq h
      subst e
      exact ⟨.bl b, rfl, fun _ => .bl _⟩
    | _ => cases h
  | .int i, u, h => by
    simp only [rpB] at h
    cases u with
    | int j t =>
      have e : i = j := of_decide_eq_true h
      subst e
      exact ⟨.int i, ⟨t, rfl⟩, fun _ => .int _⟩
    | _ => cases h
  | .str x, u, h => by
    simp only [rpB] at h
    cases u with
    | str y t =>
      have e : x = y := of_decide_eq_true h
      subst e
      exact ⟨.str x, ⟨t, rfl⟩, fun _ => .str _⟩
    | _ => cases h
  | .tup ds, u, h => by
    simp only [rpB] at h
    cases u with
    | ref a =>
      dsimp only at h
      split at h
      · rename_i c od its n sl ho
        obtain ⟨h1, h2⟩ := He.ba h
        obtain ⟨h3, h4⟩ := He.ba h2
        obtain ⟨vs, r, p⟩ := rpBs_ok ds _ h4
        refine ⟨.ref a, rfl, fun G => .tup (.inr ⟨_, its, n, ho, congrArg Value.type (of_decide_eq_true h1), rfl, of_decide_eq_true h3, r⟩) (p G)⟩
      · cases h
    | _ => cases h
  | .lst ds, u, h => by
    simp only [rpB] at h
    cases u with
    | ref a =>
      dsimp only at h
      split at h
      · rename_i c its n sl ho
        obtain ⟨h1, h2⟩ := He.ba h
        obtain ⟨h3, h4⟩ := He.ba h2
        obtain ⟨vs, r, p⟩ := rpBs_ok ds _ h4
        refine ⟨.ref a, rfl, fun G => .lst (.inr ⟨_, its, n, ho, congrArg Value.type (of_decide_eq_true h1), rfl, rfl, of_decide_eq_true h3, r⟩) (p G)⟩
      · cases h
    | _ => cases h
  | .obj _ _ _, _, h => by
    simp only [rpB] at h
    cases h
theorem rpBs_ok {K : PySem.W.Frag} : ∀ (ds : List PD) (us : List Value), rpBs K ds us = true → ∃ vs, Vals vs us ∧ ∀ G, Paired (Rp K G) vs ds
  | [], us, h => by
    simp only [rpBs] at h
    cases us with
    | nil => exact ⟨[], .nil, fun _ => .nil⟩
    | cons _ _ => cases h
  | d :: ds, us, h => by
    simp only [rpBs] at h
    cases us with
    | nil => cases h
    | cons u us =>
      obtain ⟨h1, h2⟩ := He.ba h
      obtain ⟨v, r, p⟩ := rpB_ok d u h1
      obtain ⟨vs, rs, ps⟩ := rpBs_ok ds us h2
      exact ⟨v :: vs, .cons r rs, fun G => .cons (p G) (ps G)⟩
end
/-- the module's name x holds an object, which is d -/
def conB (K : PySem.W.Frag) (x : Str) (d : PD) : Bool := He.eqO (PySem.W.nsIn K mainGlobals x) (some (some (.ref (He.ga K x)))) && rpB K d (.ref (He.ga K x))
theorem conB_ok {K : PySem.W.Frag} {h : Heap} {mg : Str → Option Value} (X : K.In h) (G : h.Ns mainGlobals mg) {x : Str} {d : PD} (c : conB K x d = true) : mg x = some (.ref (He.ga K x)) ∧ ∀ G, Rp K G (.ref (He.ga K x)) d := by
  obtain ⟨h1, h2⟩ := He.ba c
  refine ⟨PySem.W.mg_of X G (He.eqO_ok h1), fun G => ?_⟩
  obtain ⟨v, r, p⟩ := rpB_ok d _ h2
  have e : v = .ref (He.ga K x) := by
    cases v with
    | ref b =>
      have e2 : Value.ref (He.ga K x) = .ref b := r
      cases e2
      rfl
    | int i => obtain ⟨t, e2⟩ := r; cases e2
    | str i => obtain ⟨t, e2⟩ := r; cases e2
    | byt i => obtain ⟨t, e2⟩ := r; cases e2
    | flt i => obtain ⟨t, e2⟩ := r; cases e2
    | _ => cases (show _ = _ from r)
  subst e
  exact p G
/-- the module's name x is a number, a text, .. -/
def valB (K : PySem.W.Frag) (x : Str) (d : PD) : Bool := match PySem.W.nsIn K mainGlobals x with
  | some (some u) => rpB K d u
  | _ => false
theorem valB_ok {K : PySem.W.Frag} {h : Heap} {mg : Str → Option Value} (X : K.In h) (G : h.Ns mainGlobals mg) {x : Str} {d : PD} (c : valB K x d = true) : ∃ u v, mg x = some u ∧ RelV v u ∧ ∀ G, Rp K G v d := by
  unfold valB at c
  split at c
  · rename_i u hu
    obtain ⟨v, r, p⟩ := rpB_ok d u c
    exact ⟨u, v, PySem.W.mg_of X G hu, r, p⟩
  · cases c
def bltB (K : PySem.W.Frag) (x : Str) (b : String) : Bool := He.eqO (PySem.W.nsIn K mainGlobals x) (some (some (.builtin b)))
/-- an own exception class: its maker, the fields that its class lacks -/
def excB (K : PySem.W.Frag) (x : Str) (fs : List Str) : Bool := oexB K (He.ga K x) && (He.eqO (PySem.W.findIn K (.ref (He.ga K x)) "__init__") (some (some (.ref (He.ma K (He.ga K x) "__init__")))) && (decide (PySem.W.typeIn K (.ref (He.ma K (He.ga K x) "__init__")) = some (.type "function")) &&
  ((fs.all fun f => He.eqO (PySem.W.findIn K (.ref (He.ga K x)) f) (some none)) && xfB K (He.ga K x))))
structure ExcT (K : PySem.W.Frag) (x : Str) (fs : List Str) : Prop where
  ox : OexC K (He.ga K x)
  i : PySem.W.findIn K (.ref (He.ga K x)) "__init__" = some (some (.ref (He.ma K (He.ga K x) "__init__")))
  ti : PySem.W.typeIn K (.ref (He.ma K (He.ga K x) "__init__")) = some (.type "function")
  no : ∀ f ∈ fs, PySem.W.findIn K (.ref (He.ga K x)) f = some none
  xf : XfC K (He.ga K x)
theorem excB_ok {K : PySem.W.Frag} {x : Str} {fs : List Str} (h : excB K x fs = true) : ExcT K x fs := by
  obtain ⟨h1, h⟩ := He.ba h
  obtain ⟨h2, h⟩ := He.ba h
  obtain ⟨h3, h⟩ := He.ba h
  obtain ⟨h4, h5⟩ := He.ba h
  exact ⟨oexB_ok h1, He.eqO_ok h2, of_decide_eq_true h3, fun f hf => He.eqO_ok (List.all_eq_true.mp h4 f hf), xfB_ok h5⟩
/-- a def of no defaults -/
theorem funOf {K : PySem.W.Frag} {x q : Str} {st : Stmt} {f : Addr} {fd : FuncData} (F : FunD K x q (defArgs st) (defBody st) (defScope st) [] [] f fd) : Fun K x q st f fd := by
  obtain ⟨oc, od, dV, kV, doc, pm, an, cdv, ct, osl, rfl, lk, hcd, hD, hK⟩ := F.ex
  rcases hD with ⟨_, rfl⟩ | ⟨e, _⟩
  · exact ⟨⟨oc, od, kV, doc, pm, an, cdv, ct, osl, rfl, lk, hcd⟩, F.kp⟩
  · exact absurd rfl e
abbrev AlX : Type := He.AlD × Bool
def obsX (fa : List He.Fa) (fn : List He.DefD) (ex : PySem.W.Frag → Bool) (K : PySem.W.Frag) : AlX := (He.obsD fa fn K, ex K)
def valX (fn : List He.DefD) : AlX := (He.valD fn, true)
def SaysX (fa : List He.Fa) (fn : List He.DefD) (ex : PySem.W.Frag → Bool) (K : PySem.W.Frag) : Prop := obsX fa fn ex K = valX fn
def obsXG (n : Nat) (fa : List He.Fa) (fn : List He.DefD) (ex : PySem.W.Frag → Bool) (g : Addr → Option Obj) : AlX := obsX fa fn ex (He.frG g (cStatics :: He.asD g n))
def hookX (n : Nat) (fa : List He.Fa) (fn : List He.DefD) (ex : PySem.W.Frag → Bool) : PySem.W.Hook where
  α := AlX
  obs := fun s => obsXG n fa fn ex s.heap.get?
  val := fun _ => valX fn
  says := fun _ h => ∃ K : PySem.W.Frag, K.In h ∧ SaysX fa fn ex K
  of := fun _ _ e => ⟨_, He.frG_in, e⟩
  keeps := fun _ _ _ ⟨K, hK, c⟩ k => ⟨K, PySem.W.Frag.In.keeps hK k, c⟩
theorem obsXG_eq {n : Nat} {fa : List He.Fa} {fn : List He.DefD} {ex : PySem.W.Frag → Bool} {g : Addr → Option Obj} {s : Shared} (h : ∀ a, g a = s.heap.get? a) : obsXG n fa fn ex g = (hookX n fa fn ex).obs s := by
  have e : g = s.heap.get? := funext h
  rw [e] <;> rfl
theorem SaysX.d {fa : List He.Fa} {fn : List He.DefD} {ex : PySem.W.Frag → Bool} {K : PySem.W.Frag} (c : SaysX fa fn ex K) : He.SaysD fa fn K := congrArg (fun z : AlX => z.1) c
theorem SaysX.x {fa : List He.Fa} {fn : List He.DefD} {ex : PySem.W.Frag → Bool} {K : PySem.W.Frag} (c : SaysX fa fn ex K) : ex K = true := congrArg (fun z : AlX => z.2) c
def spLaw (K : PySem.W.Frag) : Sp := fun vs H Q _ => ∃ (a : Addr) (ns : List Int), vs = [.ref a] ∧ ns.length ≤ 63 ∧ SqL K H a (ns.map V.int) ∧ ∀ H', Q (.bl true) H'
theorem ints_rp {K : PySem.W.Frag} {G : Hp} : ∀ ns : List Int, Paired (Rp K G) (ns.map V.int) (ns.map PD.int)
  | [] => .nil
  | n :: ns => .cons (.int n) (ints_rp ns)
theorem law_of {P : Program} {w : World} {K : PySem.W.Frag} {mg : Str → Option Value} {base : Heap} {k : Nat} {f : Addr} {fd : FuncData} {x : Str} {cx : Nat → Addr} {m : Fn} (F : FnOk P w K mg base (L2.CX P w) k f fd [x] (spD K cx [false] m))
    (h : ∀ ns : List Int, ns.length ≤ 63 → m [.lst (ns.map .int)] [] = .ok (.bl true) []) : FnOk P w K mg base (L2.CX P w) k f fd [x] (spLaw K) :=
  F.imp fun vs H Q E ⟨a, ns, e, hl, hS, hQ⟩ => by
    subst e
    refine ⟨H, [.lst (ns.map .int)], [], [], Same.refl _, .p (.lst hS (ints_rp ns)) .nil, List.nodup_nil, (fun a ha => by simp at ha), ?_⟩
    rw [h ns hl]
    intro v G' H' h1 r
    cases r
    exact hQ H'
theorem walkC {l : PySem.W.OpenLaw} {n k : Nat} {q : Program} {loose : List Str} {XP : (Str → Option Value) → Heap → Prop} {YP : World → Heap → Prop} {d : DefRec} {x : Str}
    (hn : l.most = some n) (hn2 : n ≤ sizeLine) (hdf : d.params.defaults = []) (hr : Room k callerA)
    (F : ∀ (w : World) (mg : Str → Option Value) (fa : Addr) (h : Heap), YP w h → h.Ns mainGlobals mg → mg d.name = some (.ref fa) →
      ∃ (K : PySem.W.Frag) (fd : FuncData) (sp : Sp), K.In h ∧ (∀ (s : Shared) (u : Value), BindsTo s fd ⟨[u], []⟩ [(x, u)]) ∧
        (∀ (H : Hp) (a : Addr) (ns : List Int), ns.length ≤ n → Only H → SqL K H a (ns.map V.int) → sp [.ref a] H (fun v _ => v = .bl true) fun _ _ _ => False) ∧
        ∀ base : Heap, K.In base → base.Ns mainGlobals mg → FnOk l.prog w K mg base (L2.CX l.prog w) k fa fd [x] sp) :
    PySem.W.WalkO q loose XP YP l.row.toRowW d [] (fun f vs => PySem.call f vs) := by
  refine Att.attach_call hn hdf fun w s₀ s₁ mg mb fa o pm cd doc a vs ns G Y ho hd hcd hmg hobj hints hlen hg => ?_
  obtain ⟨K, fd, sp, KX, hb, hsp, hF⟩ := F w mg fa _ Y G.T.g hmg
  exact law_call KX G.T.g G.T.b G.T.builtins G.T.nolimit hg hobj hints (Nat.le_trans hlen hn2) hr hF hb (fun H hO hS => hsp H a ns hlen hO hS) fun H e s' ⟨_, _, _, _, _, _, _, _, _, _, _, _, z⟩ => z
end DL
namespace DL
open PySem PySem.Spec L2
def excKB (K : PySem.W.Frag) (D : Addr) : Bool := xfB K D && (He.eqO (PySem.W.findIn K (.ref D) "__class__") (some (some (.builtin "object.__class__"))) && (He.eqO (PySem.W.specialIn K (.builtin "object.__class__") "__get__") (some (some (.builtin "getset_descriptor.__get__"))) && (decide (PySem.W.takesIn K (.builtin "object.__class__") = some true) && decide (PySem.W.mroIn K D (.type "object") = some true))))
theorem excKB_ok {K : PySem.W.Frag} {D : Addr} (h : excKB K D = true) : ExcK K D := by
  obtain ⟨h1, h⟩ := He.ba h
  obtain ⟨h2, h⟩ := He.ba h
  obtain ⟨h3, h⟩ := He.ba h
  obtain ⟨h4, h5⟩ := He.ba h
  exact ⟨xfB_ok h1, He.eqO_ok h2, He.eqO_ok h3, of_decide_eq_true h4, of_decide_eq_true h5⟩
/-- which classes are asked at all: each says what isinstance needs -/
def excKsB (K : PySem.W.Frag) (cs : List Str) : Bool := cs.all fun c => excKB K (He.ga K c)
def tabB (K : PySem.W.Frag) (cV : Value) (tab : List (Str × Bool)) : Bool := tab.all fun q => decide (PySem.W.kitOne K (.ref (He.ga K q.1)) cV = some q.2)
theorem lookup_mem {α β : Type} [BEq α] [LawfulBEq α] {a : α} {b : β} : ∀ {l : List (α × β)}, l.lookup a = some b → (a, b) ∈ l
  | [], h => by cases h
  | (x, y) :: l, h => by
    rw [List.lookup_cons] at h
    split at h
    · rename_i e
      have e' : a = x := by simpa using e
      subst e'
      cases h
      exact List.mem_cons_self
    · exact List.mem_cons_of_mem _ (lookup_mem h)
theorem tabB_ok {K : PySem.W.Frag} {cV : Value} {cs : List Str} {tab : List (Str × Bool)} (h1 : excKsB K cs = true) (h2 : tabB K cV tab = true) (h3 : (tab.all fun q => cs.contains q.1) = true) : ∀ cn b, List.lookup cn tab = some b → ExcK K (He.ga K cn) ∧ PySem.W.kitOne K (.ref (He.ga K cn)) cV = some b := fun cn b h => by
  have hm := lookup_mem h
  have h3' := List.all_eq_true.mp h3 _ hm
  exact ⟨excKB_ok (List.all_eq_true.mp h1 _ (by simpa using h3')), of_decide_eq_true (List.all_eq_true.mp h2 _ hm)⟩
def xoB (K : PySem.W.Frag) (at_ : Str) (cs : List Str) : Bool := cs.all fun c => xfB K (He.ga K c) && He.eqO (PySem.W.findIn K (.ref (He.ga K c)) at_) (some none)
theorem xoB_ok {K : PySem.W.Frag} {at_ : Str} {cs : List Str} (h : xoB K at_ cs = true) : ∀ cn, decide (cn ∈ cs) = true → XfC K (He.ga K cn) ∧ PySem.W.findIn K (.ref (He.ga K cn)) at_ = some none := fun cn hc => by
  obtain ⟨h1, h2⟩ := He.ba (List.all_eq_true.mp h cn (of_decide_eq_true hc))
  exact ⟨xfB_ok h1, He.eqO_ok h2⟩
/-- a class without an own __init__, made without arguments -/
def xnB (K : PySem.W.Frag) (x : Str) : Bool := PySem.W.excIn K (He.ga K x) He.veBase "ValueError.__new__" && PySem.W.keepIn K (.ref (He.ga K x))
def fcB (K : PySem.W.Frag) (x : Str) : Bool := match PySem.W.findCls K (.ref (He.ga K x)) (.type "type") "__init__" with
  | some (.val (.builtin n)) => n == "ValueError.__init__"
  | _ => false
theorem fcB_ok {K : PySem.W.Frag} {x : Str} (h : fcB K x = true) : PySem.W.findCls K (.ref (He.ga K x)) (.type "type") "__init__" = some (.val (.builtin "ValueError.__init__")) := by
  unfold fcB at h
  split at h
  · rename_i n e
    rw [e, beq_iff_eq.mp h]
  · cases h
/-- a base whose __init__ (the built-in one) is called by name -/
def riB (K : PySem.W.Frag) (x : Str) : Bool := He.eqO (PySem.W.specialIn K (.ref (He.ga K x)) "__getattribute__") (some (some (.builtin "type.__getattribute__"))) && (decide (PySem.W.typeIn K (.ref (He.ga K x)) = some (.type "type")) && (PySem.W.readsIn K (He.ga K x) (.type "type") && fcB K x))
theorem riB_ok {K : PySem.W.Frag} {x : Str} (h : riB K x = true) : PySem.W.specialIn K (.ref (He.ga K x)) "__getattribute__" = some (some (.builtin "type.__getattribute__")) ∧ PySem.W.typeIn K (.ref (He.ga K x)) = some (.type "type") ∧ PySem.W.readsIn K (He.ga K x) (.type "type") = true ∧ PySem.W.findCls K (.ref (He.ga K x)) (.type "type") "__init__" = some (.val (.builtin "ValueError.__init__")) := by
  obtain ⟨h1, h⟩ := He.ba h
  obtain ⟨h2, h⟩ := He.ba h
  obtain ⟨h3, h4⟩ := He.ba h
  exact ⟨He.eqO_ok h1, of_decide_eq_true h2, h3, fcB_ok h4⟩
section
variable {K : PySem.W.Frag} {x qual : Str} {params : Arguments} {body : List Stmt} {scope : Scope} {kws : List (Str × V)} {f : Addr} {fd : FuncData} {ps : List Str}
theorem kbindsA (F : FunD K x qual params body scope [] kws f fd) (n : Nat) (ks : List Str) (g : {α : Type} → List α → List α → List α)
    (hrel : ∀ {vs zs : List V} {us ws : List Value}, Vals vs us → Vals zs ws → Vals (g vs zs) (g us ws))
    (h : ∀ (kV doc pm : Value) (an : Option Addr) (cdv ct : Value) (us ws : List Value), us.length = n → ws.length = ks.length → bindArgs (PySem.W.fnOf x qual params body scope .none kV doc pm an cdv ct) ⟨us, ks.zip ws⟩ = pure (ps.zip (g us ws))) :
    KBn K fd ps n ks (fun us ws => g us ws) (fun vs zs => g vs zs) := by
  obtain ⟨oc, od, dV, kV, doc, pm, an, cdv, ct, osl, rfl, lk, hcd, hD, hK⟩ := F.ex
  rcases hD with ⟨_, rfl⟩ | ⟨e, _⟩
  · exact ⟨fun s us ws X l1 l2 => .of_eq (h kV doc pm an cdv ct us ws l1 l2), fun r1 r2 => hrel r1 r2⟩
  · exact absurd rfl e
end
end DL
namespace K00
open PySem PySem.Spec L2 DL
abbrev top (i : Nat) : Stmt := PySem.Challenge.pw_neverfactored_k00_whole_errors_side_by_s.main.body.getD i (.Pass ⟨0, 0, 0, 0⟩)
abbrev s__law_start : Stmt := top 28
abbrev N__law_start : List Str := ["_law_script", "_law_total", "_law_cell"]
theorem sc__law_start : FnScope N__law_start ["_law_script"] (defScope s__law_start) := ⟨rfl, rfl, rfl, by decide +kernel, rfl, by decide +kernel, by decide +kernel⟩
abbrev s__law_mixed : Stmt := top 29
abbrev N__law_mixed : List Str := ["_law_number", "_law_turn", "_law_here", "_law_there"]
theorem sc__law_mixed : FnScope N__law_mixed ["_law_number", "_law_turn"] (defScope s__law_mixed) := ⟨rfl, rfl, rfl, by decide +kernel, rfl, by decide +kernel, by decide +kernel⟩
abbrev s__law_draw : Stmt := top 30
abbrev N__law_draw : List Str := ["_law_hand", "_law_many", "_law_cell", "_law_digit"]
theorem sc__law_draw : FnScope N__law_draw ["_law_hand", "_law_many"] (defScope s__law_draw) := ⟨rfl, rfl, rfl, by decide +kernel, rfl, by decide +kernel, by decide +kernel⟩
abbrev s__law_word : Stmt := top 34
abbrev N__law_word : List Str := ["_law_hand", "_law_word_here", "_law_k"]
theorem sc__law_word : FnScope N__law_word ["_law_hand"] (defScope s__law_word) := ⟨rfl, rfl, rfl, by decide +kernel, rfl, by decide +kernel, by decide +kernel⟩
abbrev s__law_gcd : Stmt := top 31
abbrev N__law_gcd : List Str := ["_law_a", "_law_b", "_law_step"]
theorem sc__law_gcd : FnScope N__law_gcd ["_law_a", "_law_b"] (defScope s__law_gcd) := ⟨rfl, rfl, rfl, by decide +kernel, rfl, by decide +kernel, by decide +kernel⟩
abbrev s__law_ratio : Stmt := top 32
abbrev N__law_ratio : List Str := ["_law_top", "_law_bottom", "_law_part"]
theorem sc__law_ratio : FnScope N__law_ratio ["_law_top", "_law_bottom"] (defScope s__law_ratio) := ⟨rfl, rfl, rfl, by decide +kernel, rfl, by decide +kernel, by decide +kernel⟩
abbrev s__law_small : Stmt := top 33
abbrev N__law_small : List Str := ["_law_hand"]
theorem sc__law_small : FnScope N__law_small ["_law_hand"] (defScope s__law_small) := ⟨rfl, rfl, rfl, by decide +kernel, rfl, by decide +kernel, by decide +kernel⟩
abbrev s__law_first : Stmt := top 35
abbrev N__law_first : List Str := ["_law_at", "_law_to", "_law_word_here", "_law_ratio_here", "_law_a", "_law_b", "_law_c", "_law_d", "_law_e", "_law_f", "_law_g", "_law_h", "_law_i", "_law_found"]
theorem sc__law_first : FnScope N__law_first ["_law_at", "_law_to", "_law_word_here", "_law_ratio_here"] (defScope s__law_first) := ⟨rfl, rfl, rfl, by decide +kernel, rfl, by decide +kernel, by decide +kernel⟩
abbrev s__law_second : Stmt := top 36
abbrev N__law_second : List Str := ["_law_at", "_law_to", "_law_word_here", "_law_ratio_here", "_law_a", "_law_b", "_law_c", "_law_d", "_law_e", "_law_f", "_law_g", "_law_found"]
theorem sc__law_second : FnScope N__law_second ["_law_at", "_law_to", "_law_word_here", "_law_ratio_here"] (defScope s__law_second) := ⟨rfl, rfl, rfl, by decide +kernel, rfl, by decide +kernel, by decide +kernel⟩
abbrev s__law_classes : Stmt := top 37
abbrev N__law_classes : List Str := ["_law_e", "_law_found"]
theorem sc__law_classes : FnScope N__law_classes ["_law_e"] (defScope s__law_classes) := ⟨rfl, rfl, rfl, by decide +kernel, rfl, by decide +kernel, by decide +kernel⟩
abbrev s__law_raised : Stmt := top 38
abbrev N__law_raised : List Str := ["_law_at", "_law_to", "_law_word_here", "_law_e"]
theorem sc__law_raised : FnScope N__law_raised ["_law_at", "_law_to", "_law_word_here"] (defScope s__law_raised) := ⟨rfl, rfl, rfl, by decide +kernel, rfl, by decide +kernel, by decide +kernel⟩
abbrev s_law : Stmt := top 39
abbrev N_law : List Str := ["_law_script", "_law_hand", "_law_at", "_law_to", "_law_word_here", "_law_ratio_here", "_law_found", "_law_k", "_law_error", "_law_bare", "_law_step"]
theorem sc_law : FnScope N_law ["_law_script"] (defScope s_law) := ⟨rfl, rfl, rfl, by decide +kernel, rfl, by decide +kernel, by decide +kernel⟩
abbrev si_BadTower : Stmt := inClass (top 7) 0
theorem sci_BadTower : FnScope ["self", "what", "place"] ["self", "what", "place"] (defScope si_BadTower) := ⟨rfl, rfl, rfl, by decide +kernel, rfl, by decide +kernel, by decide +kernel⟩
abbrev si_BadText : Stmt := inClass (top 6) 0
theorem sci_BadText : FnScope ["self", "line", "what"] ["self", "line", "what"] (defScope si_BadText) := ⟨rfl, rfl, rfl, by decide +kernel, rfl, by decide +kernel, by decide +kernel⟩
abbrev si_BadElement : Stmt := inClass (top 5) 0
theorem sci_BadElement : FnScope ["self", "index"] ["self", "index"] (defScope si_BadElement) := ⟨rfl, rfl, rfl, by decide +kernel, rfl, by decide +kernel, by decide +kernel⟩
abbrev si_Pole : Stmt := inClass (top 4) 0
theorem sci_Pole : FnScope ["self", "at"] ["self", "at"] (defScope si_Pole) := ⟨rfl, rfl, rfl, by decide +kernel, rfl, by decide +kernel, by decide +kernel⟩
abbrev si_BadRatio : Stmt := inClass (top 2) 0
theorem sci_BadRatio : FnScope ["self", "what"] ["self", "what"] (defScope si_BadRatio) := ⟨rfl, rfl, rfl, by decide +kernel, rfl, by decide +kernel, by decide +kernel⟩
abbrev si_TooMany : Stmt := inClass (top 11) 0
theorem sci_TooMany : FnScope ["self", "most"] ["self", "most"] (defScope si_TooMany) := ⟨rfl, rfl, rfl, by decide +kernel, rfl, by decide +kernel, by decide +kernel⟩
abbrev si_BadSystem : Stmt := inClass (top 10) 0
theorem sci_BadSystem : FnScope ["self", "what", "place"] ["self", "what", "place"] (defScope si_BadSystem) := ⟨rfl, rfl, rfl, by decide +kernel, rfl, by decide +kernel, by decide +kernel⟩
abbrev si_NoLetter : Stmt := inClass (top 9) 0
theorem sci_NoLetter : FnScope ["self", "letter"] ["self", "letter"] (defScope si_NoLetter) := ⟨rfl, rfl, rfl, by decide +kernel, rfl, by decide +kernel, by decide +kernel⟩
abbrev si_NoPlace : Stmt := inClass (top 8) 0
theorem sci_NoPlace : FnScope ["self", "place"] ["self", "place"] (defScope si_NoPlace) := ⟨rfl, rfl, rfl, by decide +kernel, rfl, by decide +kernel, by decide +kernel⟩
abbrev si_DividedByNought : Stmt := inClass (top 3) 0
theorem sci_DividedByNought : FnScope ["self"] ["self"] (defScope si_DividedByNought) := ⟨rfl, rfl, rfl, by decide +kernel, rfl, by decide +kernel, by decide +kernel⟩
abbrev si_NoMark : Stmt := inClass (top 21) 0
theorem sci_NoMark : FnScope ["self", "mark"] ["self", "mark"] (defScope si_NoMark) := ⟨rfl, rfl, rfl, by decide +kernel, rfl, by decide +kernel, by decide +kernel⟩
abbrev si_LackingLetter : Stmt := inClass (top 18) 0
theorem sci_LackingLetter : FnScope ["self", "letter"] ["self", "letter"] (defScope si_LackingLetter) := ⟨rfl, rfl, rfl, by decide +kernel, rfl, by decide +kernel, by decide +kernel⟩
abbrev si_BadPoint : Stmt := inClass (top 17) 0
theorem sci_BadPoint : FnScope ["self", "index", "what"] ["self", "index", "what"] (defScope si_BadPoint) := ⟨rfl, rfl, rfl, by decide +kernel, rfl, by decide +kernel, by decide +kernel⟩
abbrev si_BadProgram : Stmt := inClass (top 16) 0
theorem sci_BadProgram : FnScope ["self", "line", "what"] ["self", "line", "what"] (defScope si_BadProgram) := ⟨rfl, rfl, rfl, by decide +kernel, rfl, by decide +kernel, by decide +kernel⟩
abbrev si_BadLot : Stmt := inClass (top 25) 0
theorem sci_BadLot : FnScope ["self", "what"] ["self", "what"] (defScope si_BadLot) := ⟨rfl, rfl, rfl, by decide +kernel, rfl, by decide +kernel, by decide +kernel⟩
abbrev si_BadPrefix : Stmt := inClass (top 24) 0
theorem sci_BadPrefix : FnScope ["self", "many"] ["self", "many"] (defScope si_BadPrefix) := ⟨rfl, rfl, rfl, by decide +kernel, rfl, by decide +kernel, by decide +kernel⟩
abbrev si_BadSaying : Stmt := inClass (top 23) 0
theorem sci_BadSaying : FnScope ["self", "what"] ["self", "what"] (defScope si_BadSaying) := ⟨rfl, rfl, rfl, by decide +kernel, rfl, by decide +kernel, by decide +kernel⟩
abbrev si_HasFree : Stmt := inClass (top 15) 0
theorem sci_HasFree : FnScope ["self"] ["self"] (defScope si_HasFree) := ⟨rfl, rfl, rfl, by decide +kernel, rfl, by decide +kernel, by decide +kernel⟩
abbrev si_ZeroNote : Stmt := inClass (top 14) 0
theorem sci_ZeroNote : FnScope ["self"] ["self"] (defScope si_ZeroNote) := ⟨rfl, rfl, rfl, by decide +kernel, rfl, by decide +kernel, by decide +kernel⟩
abbrev si_NotMonic : Stmt := inClass (top 13) 0
theorem sci_NotMonic : FnScope ["self"] ["self"] (defScope si_NotMonic) := ⟨rfl, rfl, rfl, by decide +kernel, rfl, by decide +kernel, by decide +kernel⟩
abbrev si_OtherLetters : Stmt := inClass (top 12) 0
theorem sci_OtherLetters : FnScope ["self"] ["self"] (defScope si_OtherLetters) := ⟨rfl, rfl, rfl, by decide +kernel, rfl, by decide +kernel, by decide +kernel⟩
abbrev si_NoneMarked : Stmt := inClass (top 22) 0
theorem sci_NoneMarked : FnScope ["self"] ["self"] (defScope si_NoneMarked) := ⟨rfl, rfl, rfl, by decide +kernel, rfl, by decide +kernel, by decide +kernel⟩
abbrev si_NoPoint : Stmt := inClass (top 19) 0
theorem sci_NoPoint : FnScope ["self"] ["self"] (defScope si_NoPoint) := ⟨rfl, rfl, rfl, by decide +kernel, rfl, by decide +kernel, by decide +kernel⟩
def isA_RootError : Nat → Option Bool
  | 0 => some true
  | 6 => some true
  | 5 => some true
  | 4 => some true
  | 3 => some true
  | 1 => some true
  | 10 => some true
  | 9 => some true
  | 8 => some true
  | 7 => some true
  | 2 => some true
  | 20 => some true
  | 17 => some true
  | 16 => some true
  | 15 => some true
  | 24 => some true
  | 23 => some true
  | 22 => some true
  | 14 => some true
  | 13 => some true
  | 12 => some true
  | 11 => some true
  | 21 => some true
  | 19 => some true
  | 18 => some true
  | 25 => some true
  | _ => none
def isA_NoPoint : Nat → Option Bool
  | 0 => some false
  | 6 => some false
  | 5 => some false
  | 4 => some false
  | 3 => some false
  | 1 => some false
  | 10 => some false
  | 9 => some false
  | 8 => some false
  | 7 => some false
  | 2 => some false
  | 20 => some false
  | 17 => some false
  | 16 => some false
  | 15 => some false
  | 24 => some false
  | 23 => some false
  | 22 => some false
  | 14 => some false
  | 13 => some false
  | 12 => some false
  | 11 => some false
  | 21 => some false
  | 19 => some false
  | 18 => some true
  | 25 => some false
  | _ => none
def isA_BadText : Nat → Option Bool
  | 0 => some false
  | 6 => some false
  | 5 => some true
  | 4 => some false
  | 3 => some false
  | 1 => some false
  | 10 => some false
  | 9 => some false
  | 8 => some false
  | 7 => some false
  | 2 => some false
  | 20 => some false
  | 17 => some false
  | 16 => some false
  | 15 => some false
  | 24 => some false
  | 23 => some false
  | 22 => some false
  | 14 => some false
  | 13 => some false
  | 12 => some false
  | 11 => some false
  | 21 => some false
  | 19 => some false
  | 18 => some false
  | 25 => some false
  | _ => none
def isA_BadTower : Nat → Option Bool
  | 0 => some false
  | 6 => some true
  | 5 => some false
  | 4 => some false
  | 3 => some false
  | 1 => some false
  | 10 => some false
  | 9 => some false
  | 8 => some false
  | 7 => some false
  | 2 => some false
  | 20 => some false
  | 17 => some false
  | 16 => some false
  | 15 => some false
  | 24 => some false
  | 23 => some false
  | 22 => some false
  | 14 => some false
  | 13 => some false
  | 12 => some false
  | 11 => some false
  | 21 => some false
  | 19 => some false
  | 18 => some false
  | 25 => some false
  | _ => none
def isA_BadSystem : Nat → Option Bool
  | 0 => some false
  | 6 => some false
  | 5 => some false
  | 4 => some false
  | 3 => some false
  | 1 => some false
  | 10 => some false
  | 9 => some true
  | 8 => some false
  | 7 => some false
  | 2 => some false
  | 20 => some false
  | 17 => some false
  | 16 => some false
  | 15 => some false
  | 24 => some false
  | 23 => some false
  | 22 => some false
  | 14 => some false
  | 13 => some false
  | 12 => some false
  | 11 => some false
  | 21 => some false
  | 19 => some false
  | 18 => some false
  | 25 => some false
  | _ => none
def isV_RootError : Str → Option Bool := fun c => List.lookup c [("BadTower", true), ("BadText", true), ("BadElement", true), ("Pole", true), ("BadRatio", true), ("TooMany", true), ("BadSystem", true), ("NoLetter", true), ("NoPlace", true), ("DividedByNought", true), ("NoMark", true), ("LackingLetter", true), ("BadPoint", true), ("BadProgram", true), ("BadLot", true), ("BadPrefix", true), ("BadSaying", true), ("HasFree", true), ("ZeroNote", true), ("NotMonic", true), ("OtherLetters", true), ("NoneMarked", true), ("NotOne", true), ("NoPoint", true), ("NoFree", true), ("RootError", true)]
def isV_ValueError : Str → Option Bool := fun c => List.lookup c [("BadTower", true), ("BadText", true), ("BadElement", true), ("Pole", true), ("BadRatio", true), ("TooMany", true), ("BadSystem", true), ("NoLetter", true), ("NoPlace", true), ("DividedByNought", true), ("NoMark", true), ("LackingLetter", true), ("BadPoint", true), ("BadProgram", true), ("BadLot", true), ("BadPrefix", true), ("BadSaying", true), ("HasFree", true), ("ZeroNote", true), ("NotMonic", true), ("OtherLetters", true), ("NoneMarked", true), ("NotOne", true), ("NoPoint", true), ("NoFree", true), ("RootError", true)]
def isV_LookupError : Str → Option Bool := fun c => List.lookup c [("BadTower", false), ("BadText", false), ("BadElement", false), ("Pole", false), ("BadRatio", false), ("TooMany", false), ("BadSystem", false), ("NoLetter", false), ("NoPlace", false), ("DividedByNought", false), ("NoMark", false), ("LackingLetter", false), ("BadPoint", false), ("BadProgram", false), ("BadLot", false), ("BadPrefix", false), ("BadSaying", false), ("HasFree", false), ("ZeroNote", false), ("NotMonic", false), ("OtherLetters", false), ("NoneMarked", false), ("NotOne", false), ("NoPoint", false), ("NoFree", false), ("RootError", false)]
def isV_ArithmeticError : Str → Option Bool := fun c => List.lookup c [("BadTower", false), ("BadText", false), ("BadElement", false), ("Pole", false), ("BadRatio", false), ("TooMany", false), ("BadSystem", false), ("NoLetter", false), ("NoPlace", false), ("DividedByNought", false), ("NoMark", false), ("LackingLetter", false), ("BadPoint", false), ("BadProgram", false), ("BadLot", false), ("BadPrefix", false), ("BadSaying", false), ("HasFree", false), ("ZeroNote", false), ("NotMonic", false), ("OtherLetters", false), ("NoneMarked", false), ("NotOne", false), ("NoPoint", false), ("NoFree", false), ("RootError", false)]
def isV_BadElement : Str → Option Bool := fun c => List.lookup c [("BadTower", false), ("BadText", false), ("BadElement", true), ("Pole", false), ("BadRatio", false), ("TooMany", false), ("BadSystem", false), ("NoLetter", false), ("NoPlace", false), ("DividedByNought", false), ("NoMark", false), ("LackingLetter", false), ("BadPoint", false), ("BadProgram", false), ("BadLot", false), ("BadPrefix", false), ("BadSaying", false), ("HasFree", false), ("ZeroNote", false), ("NotMonic", false), ("OtherLetters", false), ("NoneMarked", false), ("NotOne", false), ("NoPoint", false), ("NoFree", false), ("RootError", false)]
def isV_Pole : Str → Option Bool := fun c => List.lookup c [("BadTower", false), ("BadText", false), ("BadElement", false), ("Pole", true), ("BadRatio", false), ("TooMany", false), ("BadSystem", false), ("NoLetter", false), ("NoPlace", false), ("DividedByNought", false), ("NoMark", false), ("LackingLetter", false), ("BadPoint", false), ("BadProgram", false), ("BadLot", false), ("BadPrefix", false), ("BadSaying", false), ("HasFree", false), ("ZeroNote", false), ("NotMonic", false), ("OtherLetters", false), ("NoneMarked", false), ("NotOne", false), ("NoPoint", false), ("NoFree", false), ("RootError", false)]
def isV_DividedByNought : Str → Option Bool := fun c => List.lookup c [("BadTower", false), ("BadText", false), ("BadElement", false), ("Pole", false), ("BadRatio", false), ("TooMany", false), ("BadSystem", false), ("NoLetter", false), ("NoPlace", false), ("DividedByNought", true), ("NoMark", false), ("LackingLetter", false), ("BadPoint", false), ("BadProgram", false), ("BadLot", false), ("BadPrefix", false), ("BadSaying", false), ("HasFree", false), ("ZeroNote", false), ("NotMonic", false), ("OtherLetters", false), ("NoneMarked", false), ("NotOne", false), ("NoPoint", false), ("NoFree", false), ("RootError", false)]
def isV_BadRatio : Str → Option Bool := fun c => List.lookup c [("BadTower", false), ("BadText", false), ("BadElement", false), ("Pole", false), ("BadRatio", true), ("TooMany", false), ("BadSystem", false), ("NoLetter", false), ("NoPlace", false), ("DividedByNought", false), ("NoMark", false), ("LackingLetter", false), ("BadPoint", false), ("BadProgram", false), ("BadLot", false), ("BadPrefix", false), ("BadSaying", false), ("HasFree", false), ("ZeroNote", false), ("NotMonic", false), ("OtherLetters", false), ("NoneMarked", false), ("NotOne", false), ("NoPoint", false), ("NoFree", false), ("RootError", false)]
def isV_NoLetter : Str → Option Bool := fun c => List.lookup c [("BadTower", false), ("BadText", false), ("BadElement", false), ("Pole", false), ("BadRatio", false), ("TooMany", false), ("BadSystem", false), ("NoLetter", true), ("NoPlace", false), ("DividedByNought", false), ("NoMark", false), ("LackingLetter", false), ("BadPoint", false), ("BadProgram", false), ("BadLot", false), ("BadPrefix", false), ("BadSaying", false), ("HasFree", false), ("ZeroNote", false), ("NotMonic", false), ("OtherLetters", false), ("NoneMarked", false), ("NotOne", false), ("NoPoint", false), ("NoFree", false), ("RootError", false)]
def isV_NoPlace : Str → Option Bool := fun c => List.lookup c [("BadTower", false), ("BadText", false), ("BadElement", false), ("Pole", false), ("BadRatio", false), ("TooMany", false), ("BadSystem", false), ("NoLetter", false), ("NoPlace", true), ("DividedByNought", false), ("NoMark", false), ("LackingLetter", false), ("BadPoint", false), ("BadProgram", false), ("BadLot", false), ("BadPrefix", false), ("BadSaying", false), ("HasFree", false), ("ZeroNote", false), ("NotMonic", false), ("OtherLetters", false), ("NoneMarked", false), ("NotOne", false), ("NoPoint", false), ("NoFree", false), ("RootError", false)]
def isV_BadTower : Str → Option Bool := fun c => List.lookup c [("BadTower", true), ("BadText", false), ("BadElement", false), ("Pole", false), ("BadRatio", false), ("TooMany", false), ("BadSystem", false), ("NoLetter", false), ("NoPlace", false), ("DividedByNought", false), ("NoMark", false), ("LackingLetter", false), ("BadPoint", false), ("BadProgram", false), ("BadLot", false), ("BadPrefix", false), ("BadSaying", false), ("HasFree", false), ("ZeroNote", false), ("NotMonic", false), ("OtherLetters", false), ("NoneMarked", false), ("NotOne", false), ("NoPoint", false), ("NoFree", false), ("RootError", false)]
def isV_BadText : Str → Option Bool := fun c => List.lookup c [("BadTower", false), ("BadText", true), ("BadElement", false), ("Pole", false), ("BadRatio", false), ("TooMany", false), ("BadSystem", false), ("NoLetter", false), ("NoPlace", false), ("DividedByNought", false), ("NoMark", false), ("LackingLetter", false), ("BadPoint", false), ("BadProgram", false), ("BadLot", false), ("BadPrefix", false), ("BadSaying", false), ("HasFree", false), ("ZeroNote", false), ("NotMonic", false), ("OtherLetters", false), ("NoneMarked", false), ("NotOne", false), ("NoPoint", false), ("NoFree", false), ("RootError", false)]
def isV_NotMonic : Str → Option Bool := fun c => List.lookup c [("BadTower", false), ("BadText", false), ("BadElement", false), ("Pole", false), ("BadRatio", false), ("TooMany", false), ("BadSystem", false), ("NoLetter", false), ("NoPlace", false), ("DividedByNought", false), ("NoMark", false), ("LackingLetter", false), ("BadPoint", false), ("BadProgram", false), ("BadLot", false), ("BadPrefix", false), ("BadSaying", false), ("HasFree", false), ("ZeroNote", false), ("NotMonic", true), ("OtherLetters", false), ("NoneMarked", false), ("NotOne", false), ("NoPoint", false), ("NoFree", false), ("RootError", false)]
def isV_OtherLetters : Str → Option Bool := fun c => List.lookup c [("BadTower", false), ("BadText", false), ("BadElement", false), ("Pole", false), ("BadRatio", false), ("TooMany", false), ("BadSystem", false), ("NoLetter", false), ("NoPlace", false), ("DividedByNought", false), ("NoMark", false), ("LackingLetter", false), ("BadPoint", false), ("BadProgram", false), ("BadLot", false), ("BadPrefix", false), ("BadSaying", false), ("HasFree", false), ("ZeroNote", false), ("NotMonic", false), ("OtherLetters", true), ("NoneMarked", false), ("NotOne", false), ("NoPoint", false), ("NoFree", false), ("RootError", false)]
def isV_TooMany : Str → Option Bool := fun c => List.lookup c [("BadTower", false), ("BadText", false), ("BadElement", false), ("Pole", false), ("BadRatio", false), ("TooMany", true), ("BadSystem", false), ("NoLetter", false), ("NoPlace", false), ("DividedByNought", false), ("NoMark", false), ("LackingLetter", false), ("BadPoint", false), ("BadProgram", false), ("BadLot", false), ("BadPrefix", false), ("BadSaying", false), ("HasFree", false), ("ZeroNote", false), ("NotMonic", false), ("OtherLetters", false), ("NoneMarked", false), ("NotOne", false), ("NoPoint", false), ("NoFree", false), ("RootError", false)]
def isV_BadSystem : Str → Option Bool := fun c => List.lookup c [("BadTower", false), ("BadText", false), ("BadElement", false), ("Pole", false), ("BadRatio", false), ("TooMany", false), ("BadSystem", true), ("NoLetter", false), ("NoPlace", false), ("DividedByNought", false), ("NoMark", false), ("LackingLetter", false), ("BadPoint", false), ("BadProgram", false), ("BadLot", false), ("BadPrefix", false), ("BadSaying", false), ("HasFree", false), ("ZeroNote", false), ("NotMonic", false), ("OtherLetters", false), ("NoneMarked", false), ("NotOne", false), ("NoPoint", false), ("NoFree", false), ("RootError", false)]
def isV_BadPoint : Str → Option Bool := fun c => List.lookup c [("BadTower", false), ("BadText", false), ("BadElement", false), ("Pole", false), ("BadRatio", false), ("TooMany", false), ("BadSystem", false), ("NoLetter", false), ("NoPlace", false), ("DividedByNought", false), ("NoMark", false), ("LackingLetter", false), ("BadPoint", true), ("BadProgram", false), ("BadLot", false), ("BadPrefix", false), ("BadSaying", false), ("HasFree", false), ("ZeroNote", false), ("NotMonic", false), ("OtherLetters", false), ("NoneMarked", false), ("NotOne", false), ("NoPoint", false), ("NoFree", false), ("RootError", false)]
def isV_BadProgram : Str → Option Bool := fun c => List.lookup c [("BadTower", false), ("BadText", false), ("BadElement", false), ("Pole", false), ("BadRatio", false), ("TooMany", false), ("BadSystem", false), ("NoLetter", false), ("NoPlace", false), ("DividedByNought", false), ("NoMark", false), ("LackingLetter", false), ("BadPoint", false), ("BadProgram", true), ("BadLot", false), ("BadPrefix", false), ("BadSaying", false), ("HasFree", false), ("ZeroNote", false), ("NotMonic", false), ("OtherLetters", false), ("NoneMarked", false), ("NotOne", false), ("NoPoint", false), ("NoFree", false), ("RootError", false)]
def isV_HasFree : Str → Option Bool := fun c => List.lookup c [("BadTower", false), ("BadText", false), ("BadElement", false), ("Pole", false), ("BadRatio", false), ("TooMany", false), ("BadSystem", false), ("NoLetter", false), ("NoPlace", false), ("DividedByNought", false), ("NoMark", false), ("LackingLetter", false), ("BadPoint", false), ("BadProgram", false), ("BadLot", false), ("BadPrefix", false), ("BadSaying", false), ("HasFree", true), ("ZeroNote", false), ("NotMonic", false), ("OtherLetters", false), ("NoneMarked", false), ("NotOne", false), ("NoPoint", false), ("NoFree", false), ("RootError", false)]
def isV_ZeroNote : Str → Option Bool := fun c => List.lookup c [("BadTower", false), ("BadText", false), ("BadElement", false), ("Pole", false), ("BadRatio", false), ("TooMany", false), ("BadSystem", false), ("NoLetter", false), ("NoPlace", false), ("DividedByNought", false), ("NoMark", false), ("LackingLetter", false), ("BadPoint", false), ("BadProgram", false), ("BadLot", false), ("BadPrefix", false), ("BadSaying", false), ("HasFree", false), ("ZeroNote", true), ("NotMonic", false), ("OtherLetters", false), ("NoneMarked", false), ("NotOne", false), ("NoPoint", false), ("NoFree", false), ("RootError", false)]
def isV_NoMark : Str → Option Bool := fun c => List.lookup c [("BadTower", false), ("BadText", false), ("BadElement", false), ("Pole", false), ("BadRatio", false), ("TooMany", false), ("BadSystem", false), ("NoLetter", false), ("NoPlace", false), ("DividedByNought", false), ("NoMark", true), ("LackingLetter", false), ("BadPoint", false), ("BadProgram", false), ("BadLot", false), ("BadPrefix", false), ("BadSaying", false), ("HasFree", false), ("ZeroNote", false), ("NotMonic", false), ("OtherLetters", false), ("NoneMarked", false), ("NotOne", false), ("NoPoint", false), ("NoFree", false), ("RootError", false)]
def isV_NotOne : Str → Option Bool := fun c => List.lookup c [("BadTower", false), ("BadText", false), ("BadElement", false), ("Pole", false), ("BadRatio", false), ("TooMany", false), ("BadSystem", false), ("NoLetter", false), ("NoPlace", false), ("DividedByNought", false), ("NoMark", false), ("LackingLetter", false), ("BadPoint", false), ("BadProgram", false), ("BadLot", false), ("BadPrefix", false), ("BadSaying", false), ("HasFree", false), ("ZeroNote", false), ("NotMonic", false), ("OtherLetters", false), ("NoneMarked", false), ("NotOne", true), ("NoPoint", false), ("NoFree", false), ("RootError", false)]
def isV_NoPoint : Str → Option Bool := fun c => List.lookup c [("BadTower", false), ("BadText", false), ("BadElement", false), ("Pole", false), ("BadRatio", false), ("TooMany", false), ("BadSystem", false), ("NoLetter", false), ("NoPlace", false), ("DividedByNought", false), ("NoMark", false), ("LackingLetter", false), ("BadPoint", false), ("BadProgram", false), ("BadLot", false), ("BadPrefix", false), ("BadSaying", false), ("HasFree", false), ("ZeroNote", false), ("NotMonic", false), ("OtherLetters", false), ("NoneMarked", false), ("NotOne", false), ("NoPoint", true), ("NoFree", false), ("RootError", false)]
def isV_LackingLetter : Str → Option Bool := fun c => List.lookup c [("BadTower", false), ("BadText", false), ("BadElement", false), ("Pole", false), ("BadRatio", false), ("TooMany", false), ("BadSystem", false), ("NoLetter", false), ("NoPlace", false), ("DividedByNought", false), ("NoMark", false), ("LackingLetter", true), ("BadPoint", false), ("BadProgram", false), ("BadLot", false), ("BadPrefix", false), ("BadSaying", false), ("HasFree", false), ("ZeroNote", false), ("NotMonic", false), ("OtherLetters", false), ("NoneMarked", false), ("NotOne", false), ("NoPoint", false), ("NoFree", false), ("RootError", false)]
def isV_BadLot : Str → Option Bool := fun c => List.lookup c [("BadTower", false), ("BadText", false), ("BadElement", false), ("Pole", false), ("BadRatio", false), ("TooMany", false), ("BadSystem", false), ("NoLetter", false), ("NoPlace", false), ("DividedByNought", false), ("NoMark", false), ("LackingLetter", false), ("BadPoint", false), ("BadProgram", false), ("BadLot", true), ("BadPrefix", false), ("BadSaying", false), ("HasFree", false), ("ZeroNote", false), ("NotMonic", false), ("OtherLetters", false), ("NoneMarked", false), ("NotOne", false), ("NoPoint", false), ("NoFree", false), ("RootError", false)]
def isV_BadPrefix : Str → Option Bool := fun c => List.lookup c [("BadTower", false), ("BadText", false), ("BadElement", false), ("Pole", false), ("BadRatio", false), ("TooMany", false), ("BadSystem", false), ("NoLetter", false), ("NoPlace", false), ("DividedByNought", false), ("NoMark", false), ("LackingLetter", false), ("BadPoint", false), ("BadProgram", false), ("BadLot", false), ("BadPrefix", true), ("BadSaying", false), ("HasFree", false), ("ZeroNote", false), ("NotMonic", false), ("OtherLetters", false), ("NoneMarked", false), ("NotOne", false), ("NoPoint", false), ("NoFree", false), ("RootError", false)]
def isV_BadSaying : Str → Option Bool := fun c => List.lookup c [("BadTower", false), ("BadText", false), ("BadElement", false), ("Pole", false), ("BadRatio", false), ("TooMany", false), ("BadSystem", false), ("NoLetter", false), ("NoPlace", false), ("DividedByNought", false), ("NoMark", false), ("LackingLetter", false), ("BadPoint", false), ("BadProgram", false), ("BadLot", false), ("BadPrefix", false), ("BadSaying", true), ("HasFree", false), ("ZeroNote", false), ("NotMonic", false), ("OtherLetters", false), ("NoneMarked", false), ("NotOne", false), ("NoPoint", false), ("NoFree", false), ("RootError", false)]
def isV_NoneMarked : Str → Option Bool := fun c => List.lookup c [("BadTower", false), ("BadText", false), ("BadElement", false), ("Pole", false), ("BadRatio", false), ("TooMany", false), ("BadSystem", false), ("NoLetter", false), ("NoPlace", false), ("DividedByNought", false), ("NoMark", false), ("LackingLetter", false), ("BadPoint", false), ("BadProgram", false), ("BadLot", false), ("BadPrefix", false), ("BadSaying", false), ("HasFree", false), ("ZeroNote", false), ("NotMonic", false), ("OtherLetters", false), ("NoneMarked", true), ("NotOne", false), ("NoPoint", false), ("NoFree", false), ("RootError", false)]
def isV_NoFree : Str → Option Bool := fun c => List.lookup c [("BadTower", false), ("BadText", false), ("BadElement", false), ("Pole", false), ("BadRatio", false), ("TooMany", false), ("BadSystem", false), ("NoLetter", false), ("NoPlace", false), ("DividedByNought", false), ("NoMark", false), ("LackingLetter", false), ("BadPoint", false), ("BadProgram", false), ("BadLot", false), ("BadPrefix", false), ("BadSaying", false), ("HasFree", false), ("ZeroNote", false), ("NotMonic", false), ("OtherLetters", false), ("NoneMarked", false), ("NotOne", false), ("NoPoint", false), ("NoFree", true), ("RootError", false)]
def isS_BadTower : Nat → Option Bool
  | 0 => some false
  | 6 => some true
  | 5 => some false
  | 4 => some false
  | 3 => some false
  | 1 => some false
  | 10 => some false
  | 9 => some false
  | 8 => some false
  | 7 => some false
  | 2 => some false
  | 20 => some false
  | 17 => some false
  | 16 => some false
  | 15 => some false
  | 24 => some false
  | 23 => some false
  | 22 => some false
  | 14 => some false
  | 13 => some false
  | 12 => some false
  | 11 => some false
  | 21 => some false
  | 19 => some false
  | 18 => some false
  | 25 => some false
  | _ => none
def isS_BadSystem : Nat → Option Bool
  | 0 => some false
  | 6 => some false
  | 5 => some false
  | 4 => some false
  | 3 => some false
  | 1 => some false
  | 10 => some false
  | 9 => some true
  | 8 => some false
  | 7 => some false
  | 2 => some false
  | 20 => some false
  | 17 => some false
  | 16 => some false
  | 15 => some false
  | 24 => some false
  | 23 => some false
  | 22 => some false
  | 14 => some false
  | 13 => some false
  | 12 => some false
  | 11 => some false
  | 21 => some false
  | 19 => some false
  | 18 => some false
  | 25 => some false
  | _ => none
def okF_index : Str → Bool := fun c => decide (c ∈ (["BadElement", "BadPoint"] : List Str))
def okF_at : Str → Bool := fun c => decide (c ∈ (["Pole"] : List Str))
def okF_what : Str → Bool := fun c => decide (c ∈ (["BadTower", "BadText", "BadRatio", "BadSystem", "BadPoint", "BadProgram", "BadLot", "BadSaying"] : List Str))
def okF_place : Str → Bool := fun c => decide (c ∈ (["BadTower", "BadSystem", "NoPlace"] : List Str))
def okF_line : Str → Bool := fun c => decide (c ∈ (["BadText", "BadProgram"] : List Str))
def okF_most : Str → Bool := fun c => decide (c ∈ (["TooMany"] : List Str))
def okF_letter : Str → Bool := fun c => decide (c ∈ (["NoLetter", "LackingLetter"] : List Str))
def okF_mark : Str → Bool := fun c => decide (c ∈ (["NoMark"] : List Str))
def okF_many : Str → Bool := fun c => decide (c ∈ (["BadPrefix"] : List Str))
def prm_BadText_line_what {α : Type} (ws : List α) : List α := match ws with
  | [w0, w1] => [w0, w1]
  | _ => []
theorem prr_BadText_line_what {α β : Type} {R : α → β → Prop} {zs : List α} {xs : List β} (h : Paired R zs xs) : Paired R (prm_BadText_line_what zs) (prm_BadText_line_what xs) := by
  by_cases hl : xs.length = 2
  · have hv := (paired_length h).trans hl
    match zs, xs, h, hl, hv with
    | [z0, z1], [x0, x1], (.cons r0 (.cons r1 .nil)), _, _ => exact (.cons r0 (.cons r1 .nil))
  · have e1 : prm_BadText_line_what xs = [] := by
      unfold prm_BadText_line_what
      split
      · exact absurd rfl hl
      · rfl
    have e2 : prm_BadText_line_what zs = [] := by
      unfold prm_BadText_line_what
      split
      · exact absurd (paired_length h).symm hl
      · rfl
    rw [e1, e2]
    exact .nil
def prm_BadSystem_place_what {α : Type} (ws : List α) : List α := match ws with
  | [w0, w1] => [w1, w0]
  | _ => []
theorem prr_BadSystem_place_what {α β : Type} {R : α → β → Prop} {zs : List α} {xs : List β} (h : Paired R zs xs) : Paired R (prm_BadSystem_place_what zs) (prm_BadSystem_place_what xs) := by
  by_cases hl : xs.length = 2
  · have hv := (paired_length h).trans hl
    match zs, xs, h, hl, hv with
    | [z0, z1], [x0, x1], (.cons r0 (.cons r1 .nil)), _, _ => exact (.cons r1 (.cons r0 .nil))
  · have e1 : prm_BadSystem_place_what xs = [] := by
      unfold prm_BadSystem_place_what
      split
      · exact absurd rfl hl
      · rfl
    have e2 : prm_BadSystem_place_what zs = [] := by
      unfold prm_BadSystem_place_what
      split
      · exact absurd (paired_length h).symm hl
      · rfl
    rw [e1, e2]
    exact .nil
def b1__law_start : DS → SR := (sSet 1 (mBin fMod (mCB fInt (mCons (mBin fAdd (mBin fMul (mVar 1) (mC (.int 37))) (mCB fInt (mCons (mVar 2) mNil))) mNil)) (mC (.int 2147483629))))
def e1__law_start : DS → ER D := (mCB fInt (mCons (mVar 2) mNil))
def l1__law_start : DS → ER D := (mLc (mItl (mVar 0)) (tgName 2) mYes e1__law_start [2])
def m__law_start : DS → SR := (sSeq (sSet 1 (mC (.int 0)))
    (sSeq (sFor (mItl (mVar 0)) (tgName 2) b1__law_start)
    (sRet (mLst (mCons l1__law_start (mCons (mC (.int 0)) (mCons (mC (.int 0)) (mCons (mC (.int 0)) (mCons (mVar 1) mNil)))))))))
def f__law_start : Fn := runF 3 [false] true m__law_start
def m__law_mixed : DS → SR := (sSeq (sSet 2 (mBin fMod (mCB fInt (mCons (mBin fAdd (mBin fAdd (mBin fMul (mVar 0) (mC (.int 48271))) (mBin fMul (mVar 1) (mC (.int 69621)))) (mC (.int 17))) mNil)) (mC (.int 2147483647))))
    (sSeq (sSet 3 (mBin fMod (mCB fInt (mCons (mBin fAdd (mBin fAdd (mBin fMul (mVar 2) (mVar 2)) (mBin fMul (mVar 1) (mC (.int 40692)))) (mC (.int 5))) mNil)) (mC (.int 2147483399))))
    (sRet (mBin fDiv (mBin fMod (mCB fInt (mCons (mBin fAdd (mBin fMul (mVar 3) (mVar 3)) (mBin fMul (mVar 2) (mC (.int 16807)))) mNil)) (mC (.int 2147483563))) (mC (.int 32))))))
def f__law_mixed : Fn := runF 4 [false, false] false m__law_mixed
def m__law_draw : DS → SR := (sSeq (sSetItem (mBin fAdd (mBin fIx (mVar 0) (mC (.int 3))) (mC (.int 1))) (mVar 0) (mC (.int 3)))
    (sSeq (sIf (mAndT (mTest (mBin fEq (mBin fIx (mVar 0) (mC (.int 2))) (mC (.int 0)))) (mTest (mBin fLt (mBin fIx (mVar 0) (mC (.int 1))) (mCB fLen (mCons (mBin fIx (mVar 0) (mC (.int 0))) mNil))))) (sSeq (sSet 2 (mBin fIx (mBin fIx (mVar 0) (mC (.int 0))) (mBin fIx (mVar 0) (mC (.int 1)))))
    (sSeq (sSetItem (mBin fAdd (mBin fIx (mVar 0) (mC (.int 1))) (mC (.int 1))) (mVar 0) (mC (.int 1)))
    (sSeq (sIf (mTest (mBin fLt (mCB fAbs (mCons (mVar 2) mNil)) (mBin fPow (mC (.int 10)) (mC (.int 18))))) (sRet (mBin fMod (mCB fInt (mCons (mCall [false, false] f__law_mixed (mCons (mVar 2) (mCons (mBin fIx (mVar 0) (mC (.int 3))) mNil))) mNil)) (mVar 1))) sNext)
    (sSetItem (mCB fAbs (mCons (mVar 2) mNil)) (mVar 0) (mC (.int 2)))))) sNext)
    (sSeq (sIf (mTest (mBin fGt (mBin fIx (mVar 0) (mC (.int 2))) (mC (.int 0)))) (sSeq (sSet 3 (mBin fMod (mCB fInt (mCons (mBin fIx (mVar 0) (mC (.int 2))) mNil)) (mVar 1)))
    (sSeq (sSetItem (mBin fDiv (mBin fIx (mVar 0) (mC (.int 2))) (mVar 1)) (mVar 0) (mC (.int 2)))
    (sRet (mVar 3)))) sNext)
    (sRet (mBin fMod (mCB fInt (mCons (mCall [false, false] f__law_mixed (mCons (mBin fIx (mVar 0) (mC (.int 4))) (mCons (mBin fIx (mVar 0) (mC (.int 3))) mNil))) mNil)) (mVar 1))))))
def f__law_draw : Fn := runF 4 [true, false] false m__law_draw
def b1__law_word : DS → SR := (sSet 1 (mBin fAdd (mVar 1) (mBin fIx (mC (.str "abcdefghijklmnopqrstuvwxyz")) (mCall [true, false] f__law_draw (mCons (mVar 0) (mCons (mC (.int 26)) mNil))))))
def m__law_word : DS → SR := (sSeq (sSet 1 (mC (.str "")))
    (sSeq (sFor (mb (mCons (mBin fAdd (mC (.int 1)) (mCall [true, false] f__law_draw (mCons (mVar 0) (mCons (mC (.int 6)) mNil)))) mNil) fRng1) (tgName 2) b1__law_word)
    (sRet (mVar 1))))
def f__law_word : Fn := runF 3 [true] false m__law_word
def b1__law_gcd : DS → SR := (sSeq (sIf (mTest (mBin fEq (mVar 1) (mC (.int 0)))) sBreak sNext)
    (sPar 0 1 (mCons (mVar 1) (mCons (mBin fMod (mCB fInt (mCons (mVar 0) mNil)) (mVar 1)) mNil))))
def m__law_gcd : DS → SR := (sSeq (sSet 0 (mCB fAbs (mCons (mVar 0) mNil)))
    (sSeq (sSet 1 (mCB fAbs (mCons (mVar 1) mNil)))
    (sSeq (sFor (mb (mCons (mC (.int 9000)) mNil) fRng1) (tgName 2) b1__law_gcd)
    (sRet (mVar 0)))))
def f__law_gcd : Fn := runF 3 [false, false] false m__law_gcd
def m__law_ratio : DS → SR := (sSeq (sIf (mTest (mBin fLt (mVar 1) (mC (.int 0)))) (sSeq (sSet 0 (mUn fNeg (mVar 0)))
    (sSet 1 (mUn fNeg (mVar 1)))) sNext)
    (sSeq (sSet 2 (mCall [false, false] f__law_gcd (mCons (mVar 0) (mCons (mVar 1) mNil))))
    (sRet (mTup (mCons (mBin fDiv (mVar 0) (mVar 2)) (mCons (mBin fDiv (mVar 1) (mVar 2)) mNil))))))
def f__law_ratio : Fn := runF 3 [false, false] false m__law_ratio
def m__law_small : DS → SR := (sRet (mCall [false, false] f__law_ratio (mCons (mBin fSub (mCall [true, false] f__law_draw (mCons (mVar 0) (mCons (mC (.int 7)) mNil))) (mC (.int 3))) (mCons (mBin fAdd (mC (.int 1)) (mCall [true, false] f__law_draw (mCons (mVar 0) (mCons (mC (.int 2)) mNil)))) mNil))))
def f__law_small : Fn := runF 1 [true] false m__law_small
def m__law_first : DS → SR := (sSeq (sAsg (mTup (mCons (mMkV "BadRatio" ["what"] (mCons (mVar 2) mNil)) (mCons (mMkV "Pole" ["at"] (mCons (mVar 3) mNil)) (mCons (mMkV "BadElement" ["index"] (mCons (mVar 0) mNil)) (mCons (mMkV "BadText" ["line", "what"] (mCons (mVar 0) (mCons (mVar 2) mNil))) (mCons (mMkV "BadTower" ["what", "place"] (mCons (mVar 2) (mCons (mVar 1) mNil))) mNil)))))) (tgTup 5 (tgCons (tgName 4) (tgCons (tgName 5) (tgCons (tgName 6) (tgCons (tgName 7) (tgCons (tgName 8) tgNil)))))))
    (sSeq (sAsg (mTup (mCons (mMkV "NoPlace" ["place"] (mCons (mVar 0) mNil)) (mCons (mMkV "NoLetter" ["letter"] (mCons (mVar 2) mNil)) (mCons (mMkV "BadSystem" ["what", "place"] (mCons (mVar 2) (mCons (mVar 0) mNil))) (mCons (mMkV "TooMany" ["most"] (mCons (mVar 1) mNil)) mNil))))) (tgTup 4 (tgCons (tgName 9) (tgCons (tgName 10) (tgCons (tgName 11) (tgCons (tgName 12) tgNil))))))
    (sSeq (sSet 13 (mLst (mCons (mTup (mCons (mVar 4) (mCons (mLst (mCons (mExF okF_what "what" (mVar 4)) mNil)) (mCons (mLst (mCons (mVar 2) mNil)) mNil)))) (mCons (mTup (mCons (mMkV0 "DividedByNought") (mCons (mLst mNil) (mCons (mLst mNil) mNil)))) (mCons (mTup (mCons (mVar 5) (mCons (mLst (mCons (mExF okF_at "at" (mVar 5)) mNil)) (mCons (mLst (mCons (mVar 3) mNil)) mNil)))) (mCons (mTup (mCons (mVar 6) (mCons (mLst (mCons (mExF okF_index "index" (mVar 6)) mNil)) (mCons (mLst (mCons (mVar 0) mNil)) mNil)))) mNil))))))
    (sSeq (sSet 13 (mBin fAdd (mVar 13) (mLst (mCons (mTup (mCons (mVar 7) (mCons (mLst (mCons (mExF okF_line "line" (mVar 7)) (mCons (mExF okF_what "what" (mVar 7)) mNil))) (mCons (mLst (mCons (mVar 0) (mCons (mVar 2) mNil))) mNil)))) (mCons (mTup (mCons (mVar 8) (mCons (mLst (mCons (mExF okF_what "what" (mVar 8)) (mCons (mExF okF_place "place" (mVar 8)) mNil))) (mCons (mLst (mCons (mVar 2) (mCons (mVar 1) mNil))) mNil)))) (mCons (mTup (mCons (mVar 9) (mCons (mLst (mCons (mExF okF_place "place" (mVar 9)) mNil)) (mCons (mLst (mCons (mVar 0) mNil)) mNil)))) mNil))))))
    (sRet (mBin fAdd (mVar 13) (mLst (mCons (mTup (mCons (mVar 10) (mCons (mLst (mCons (mExF okF_letter "letter" (mVar 10)) mNil)) (mCons (mLst (mCons (mVar 2) mNil)) mNil)))) (mCons (mTup (mCons (mVar 11) (mCons (mLst (mCons (mExF okF_what "what" (mVar 11)) (mCons (mExF okF_place "place" (mVar 11)) mNil))) (mCons (mLst (mCons (mVar 2) (mCons (mVar 0) mNil))) mNil)))) (mCons (mTup (mCons (mVar 12) (mCons (mLst (mCons (mExF okF_most "most" (mVar 12)) mNil)) (mCons (mLst (mCons (mVar 1) mNil)) mNil)))) mNil))))))))))
def f__law_first : Fn := runF 14 [false, false, false, false] false m__law_first
def m__law_second : DS → SR := (sSeq (sAsg (mTup (mCons (mMkV "BadProgram" ["line", "what"] (mCons (mVar 0) (mCons (mVar 2) mNil))) (mCons (mMkV "BadPoint" ["index", "what"] (mCons (mVar 1) (mCons (mVar 2) mNil))) (mCons (mMkV "LackingLetter" ["letter"] (mCons (mVar 2) mNil)) (mCons (mMkV "NoMark" ["mark"] (mCons (mVar 2) mNil)) mNil))))) (tgTup 4 (tgCons (tgName 4) (tgCons (tgName 5) (tgCons (tgName 6) (tgCons (tgName 7) tgNil))))))
    (sSeq (sPar3 8 9 10 (mCons (mMkV "BadSaying" ["what"] (mCons (mVar 2) mNil)) (mCons (mMkV "BadPrefix" ["many"] (mCons (mVar 0) mNil)) (mCons (mMkV "BadLot" ["what"] (mCons (mVar 2) mNil)) mNil))))
    (sSeq (sSet 11 (mLst (mCons (mTup (mCons (mMkV0 "OtherLetters") (mCons (mLst mNil) (mCons (mLst mNil) mNil)))) (mCons (mTup (mCons (mMkV0 "NotMonic") (mCons (mLst mNil) (mCons (mLst mNil) mNil)))) (mCons (mTup (mCons (mMkV0 "ZeroNote") (mCons (mLst mNil) (mCons (mLst mNil) mNil)))) (mCons (mTup (mCons (mMkV0 "HasFree") (mCons (mLst mNil) (mCons (mLst mNil) mNil)))) mNil))))))
    (sSeq (sSet 11 (mBin fAdd (mVar 11) (mLst (mCons (mTup (mCons (mVar 4) (mCons (mLst (mCons (mExF okF_line "line" (mVar 4)) (mCons (mExF okF_what "what" (mVar 4)) mNil))) (mCons (mLst (mCons (mVar 0) (mCons (mVar 2) mNil))) mNil)))) (mCons (mTup (mCons (mVar 5) (mCons (mLst (mCons (mExF okF_index "index" (mVar 5)) (mCons (mExF okF_what "what" (mVar 5)) mNil))) (mCons (mLst (mCons (mVar 1) (mCons (mVar 2) mNil))) mNil)))) (mCons (mTup (mCons (mVar 6) (mCons (mLst (mCons (mExF okF_letter "letter" (mVar 6)) mNil)) (mCons (mLst (mCons (mVar 2) mNil)) mNil)))) mNil))))))
    (sSeq (sSet 11 (mBin fAdd (mVar 11) (mLst (mCons (mTup (mCons (mMkV0 "NoPoint") (mCons (mLst mNil) (mCons (mLst mNil) mNil)))) (mCons (mTup (mCons (mMkV0 "NotOne") (mCons (mLst mNil) (mCons (mLst mNil) mNil)))) (mCons (mTup (mCons (mVar 7) (mCons (mLst (mCons (mExF okF_mark "mark" (mVar 7)) mNil)) (mCons (mLst (mCons (mVar 2) mNil)) mNil)))) (mCons (mTup (mCons (mMkV0 "NoneMarked") (mCons (mLst mNil) (mCons (mLst mNil) mNil)))) mNil)))))))
    (sRet (mBin fAdd (mVar 11) (mLst (mCons (mTup (mCons (mVar 8) (mCons (mLst (mCons (mExF okF_what "what" (mVar 8)) mNil)) (mCons (mLst (mCons (mVar 2) mNil)) mNil)))) (mCons (mTup (mCons (mVar 9) (mCons (mLst (mCons (mExF okF_many "many" (mVar 9)) mNil)) (mCons (mLst (mCons (mVar 0) mNil)) mNil)))) (mCons (mTup (mCons (mVar 10) (mCons (mLst (mCons (mExF okF_what "what" (mVar 10)) mNil)) (mCons (mLst (mCons (mVar 2) mNil)) mNil)))) (mCons (mTup (mCons (mMkV0 "NoFree") (mCons (mLst mNil) (mCons (mLst mNil) mNil)))) mNil))))))))))))
def f__law_second : Fn := runF 12 [false, false, false, false] false m__law_second
def m__law_classes : DS → SR := (sSeq (sSet 1 (mLst (mCons (mb (mVar 0) (fIsV isV_BadRatio)) (mCons (mb (mVar 0) (fIsV isV_DividedByNought)) (mCons (mb (mVar 0) (fIsV isV_Pole)) (mCons (mb (mVar 0) (fIsV isV_BadElement)) mNil))))))
    (sSeq (sSet 1 (mBin fAdd (mVar 1) (mLst (mCons (mb (mVar 0) (fIsV isV_BadText)) (mCons (mb (mVar 0) (fIsV isV_BadTower)) (mCons (mb (mVar 0) (fIsV isV_NoPlace)) (mCons (mb (mVar 0) (fIsV isV_NoLetter)) mNil)))))))
    (sSeq (sSet 1 (mBin fAdd (mVar 1) (mLst (mCons (mb (mVar 0) (fIsV isV_BadSystem)) (mCons (mb (mVar 0) (fIsV isV_TooMany)) (mCons (mb (mVar 0) (fIsV isV_OtherLetters)) (mCons (mb (mVar 0) (fIsV isV_NotMonic)) mNil)))))))
    (sSeq (sSet 1 (mBin fAdd (mVar 1) (mLst (mCons (mb (mVar 0) (fIsV isV_ZeroNote)) (mCons (mb (mVar 0) (fIsV isV_HasFree)) (mCons (mb (mVar 0) (fIsV isV_BadProgram)) (mCons (mb (mVar 0) (fIsV isV_BadPoint)) mNil)))))))
    (sSeq (sSet 1 (mBin fAdd (mVar 1) (mLst (mCons (mb (mVar 0) (fIsV isV_LackingLetter)) (mCons (mb (mVar 0) (fIsV isV_NoPoint)) (mCons (mb (mVar 0) (fIsV isV_NotOne)) (mCons (mb (mVar 0) (fIsV isV_NoMark)) mNil)))))))
    (sSeq (sSet 1 (mBin fAdd (mVar 1) (mLst (mCons (mb (mVar 0) (fIsV isV_NoneMarked)) (mCons (mb (mVar 0) (fIsV isV_BadSaying)) (mCons (mb (mVar 0) (fIsV isV_BadPrefix)) (mCons (mb (mVar 0) (fIsV isV_BadLot)) mNil)))))))
    (sRet (mBin fAdd (mVar 1) (mLst (mCons (mb (mVar 0) (fIsV isV_NoFree)) mNil))))))))))
def f__law_classes : Fn := runF 2 [false] false m__law_classes
def m__law_raised : DS → SR := (sSeq (sTryAs isA_RootError 3 (sRaise 6 ["what", "place"] (mCons (mVar 2) (mCons (mVar 0) mNil))) (sIf (mOrT (mNotT (mTru (mIsS isS_BadTower))) (mTru (mIsS isS_BadSystem))) (sRet (mC (.bl false))) sNext))
    (sSeq (sTryMix [(isA_NoPoint, none, (sRet (mC (.bl false)))), (isA_BadText, some 3, (sIf (mOrT (mTest (mBin fNe (mXf 5 "line") (mVar 0))) (mTest (mBin fNe (mXf 5 "what") (mVar 2)))) (sRet (mC (.bl false))) sNext))] (sRaiseK 5 ["line", "what"] 2 prm_BadText_line_what (mCons (mVar 0) (mCons (mVar 2) mNil))))
    (sTryMix [(isA_BadTower, none, (sRet (mC (.bl false)))), (isA_BadSystem, some 3, (sRet (mAnd (mBin fEq (mXf 9 "what") (mVar 2)) (mBin fEq (mXf 9 "place") (mVar 1)))))] (sRaiseK 9 ["what", "place"] 2 prm_BadSystem_place_what (mCons (mVar 1) (mCons (mVar 2) mNil))))))
def f__law_raised : Fn := runF 4 [false, false, false] false m__law_raised
def e1_law : DS → ER D := (mBin fEq (mVar 7) (mVar 10))
def l1_law : DS → ER D := (mLc (mb (mCons (mCB fLen (mCons (mVar 6) mNil)) mNil) fRng1) (tgName 10) mYes e1_law [10])
def b1_law : DS → SR := (sSeq (sSet 8 (mBin fIx (mBin fIx (mVar 6) (mVar 7)) (mC (.int 0))))
    (sSeq (sIf (mOrT (mTest (mBin fNe (mBin fIx (mBin fIx (mVar 6) (mVar 7)) (mC (.int 1))) (mBin fIx (mBin fIx (mVar 6) (mVar 7)) (mC (.int 2))))) (mOrT (mNotT (mTru (mb (mVar 8) (fIsV isV_RootError)))) (mNotT (mTru (mb (mVar 8) (fIsV isV_ValueError)))))) (sRet (mC (.bl false))) sNext)
    (sSeq (sIf (mOrT (mTru (mb (mVar 8) (fIsV isV_LookupError))) (mTru (mb (mVar 8) (fIsV isV_ArithmeticError)))) (sRet (mC (.bl false))) sNext)
    (sIf (mTest (mBin fNe (mCall [false] f__law_classes (mCons (mVar 8) mNil)) l1_law)) (sRet (mC (.bl false))) sNext))))
def m_law : DS → SR := (sSeq (sSet 1 (mCall [false] f__law_start (mCons (mVar 0) mNil)))
    (sSeq (sSet 2 (mCall [true, false] f__law_draw (mCons (mVar 1) (mCons (mC (.int 100)) mNil))))
    (sSeq (sIf (mTest (mBin fGt (mCB fLen (mCons (mVar 0) mNil)) (mC (.int 0)))) (sSet 2 (mBin fMul (mBin fMod (mCB fInt (mCons (mCB fAbs (mCons (mCB fInt (mCons (mBin fIx (mVar 0) (mC (.int 0))) mNil)) mNil)) mNil)) (mBin fMul (mBin fMul (mBin fMul (mBin fPow (mC (.int 10)) (mC (.int 50))) (mBin fPow (mC (.int 10)) (mC (.int 50)))) (mBin fPow (mC (.int 10)) (mC (.int 50)))) (mBin fPow (mC (.int 10)) (mC (.int 50))))) (mIf (mTest (mBin fLt (mCB fInt (mCons (mBin fIx (mVar 0) (mC (.int 0))) mNil)) (mC (.int 0)))) (mUn fNeg (mC (.int 1))) (mC (.int 1))))) sNext)
    (sSeq (sSet 3 (mBin fSub (mCall [true, false] f__law_draw (mCons (mVar 1) (mCons (mBin fPow (mC (.int 10)) (mC (.int 9))) mNil))) (mBin fPow (mC (.int 10)) (mC (.int 8)))))
    (sSeq (sSet 4 (mCall [true] f__law_word (mCons (mVar 1) mNil)))
    (sSeq (sSet 5 (mCall [true] f__law_small (mCons (mVar 1) mNil)))
    (sSeq (sSet 6 (mBin fAdd (mCall [false, false, false, false] f__law_first (mCons (mVar 2) (mCons (mVar 3) (mCons (mVar 4) (mCons (mVar 5) mNil))))) (mCall [false, false, false, false] f__law_second (mCons (mVar 2) (mCons (mVar 3) (mCons (mVar 4) (mCons (mVar 5) mNil)))))))
    (sSeq (sFor (mb (mCons (mCB fLen (mCons (mVar 6) mNil)) mNil) fRng1) (tgName 7) b1_law)
    (sSeq (sSet 9 (mMkV0 "RootError"))
    (sSeq (sIf (mOrT (mNotT (mTru (mb (mVar 9) (fIsV isV_ValueError)))) (mTru (mCB fAny (mCons (mCall [false] f__law_classes (mCons (mVar 9) mNil)) mNil)))) (sRet (mC (.bl false))) sNext)
    (sRet (mCall [false, false, false] f__law_raised (mCons (mVar 2) (mCons (mVar 3) (mCons (mVar 4) mNil)))))))))))))))
def f_law : Fn := runF 11 [false] false m_law
structure Adr where
  a__law_start : Addr
  fd__law_start : FuncData
  a__law_mixed : Addr
  fd__law_mixed : FuncData
  a__law_draw : Addr
  fd__law_draw : FuncData
  a__law_word : Addr
  fd__law_word : FuncData
  a__law_gcd : Addr
  fd__law_gcd : FuncData
  a__law_ratio : Addr
  fd__law_ratio : FuncData
  a__law_small : Addr
  fd__law_small : FuncData
  a__law_first : Addr
  fd__law_first : FuncData
  a__law_second : Addr
  fd__law_second : FuncData
  a__law_classes : Addr
  fd__law_classes : FuncData
  a__law_raised : Addr
  fd__law_raised : FuncData
  a_law : Addr
  fd_law : FuncData
  c_RootError : Addr
  c_BadTower : Addr
  ai_BadTower : Addr
  fi_BadTower : FuncData
  c_BadText : Addr
  ai_BadText : Addr
  fi_BadText : FuncData
  c_BadElement : Addr
  ai_BadElement : Addr
  fi_BadElement : FuncData
  c_Pole : Addr
  ai_Pole : Addr
  fi_Pole : FuncData
  c_BadRatio : Addr
  ai_BadRatio : Addr
  fi_BadRatio : FuncData
  c_TooMany : Addr
  ai_TooMany : Addr
  fi_TooMany : FuncData
  c_BadSystem : Addr
  ai_BadSystem : Addr
  fi_BadSystem : FuncData
  c_NoLetter : Addr
  ai_NoLetter : Addr
  fi_NoLetter : FuncData
  c_NoPlace : Addr
  ai_NoPlace : Addr
  fi_NoPlace : FuncData
  c_DividedByNought : Addr
  ai_DividedByNought : Addr
  fi_DividedByNought : FuncData
  c_NoMark : Addr
  ai_NoMark : Addr
  fi_NoMark : FuncData
  c_LackingLetter : Addr
  ai_LackingLetter : Addr
  fi_LackingLetter : FuncData
  c_BadPoint : Addr
  ai_BadPoint : Addr
  fi_BadPoint : FuncData
  c_BadProgram : Addr
  ai_BadProgram : Addr
  fi_BadProgram : FuncData
  c_BadLot : Addr
  ai_BadLot : Addr
  fi_BadLot : FuncData
  c_BadPrefix : Addr
  ai_BadPrefix : Addr
  fi_BadPrefix : FuncData
  c_BadSaying : Addr
  ai_BadSaying : Addr
  fi_BadSaying : FuncData
  c_HasFree : Addr
  ai_HasFree : Addr
  fi_HasFree : FuncData
  c_ZeroNote : Addr
  ai_ZeroNote : Addr
  fi_ZeroNote : FuncData
  c_NotMonic : Addr
  ai_NotMonic : Addr
  fi_NotMonic : FuncData
  c_OtherLetters : Addr
  ai_OtherLetters : Addr
  fi_OtherLetters : FuncData
  c_NoneMarked : Addr
  ai_NoneMarked : Addr
  fi_NoneMarked : FuncData
  c_NotOne : Addr
  c_NoPoint : Addr
  ai_NoPoint : Addr
  fi_NoPoint : FuncData
  c_NoFree : Addr
def cx (t : Adr) : Nat → Addr
  | 0 => t.c_RootError
  | 6 => t.c_BadTower
  | 5 => t.c_BadText
  | 4 => t.c_BadElement
  | 3 => t.c_Pole
  | 1 => t.c_BadRatio
  | 10 => t.c_TooMany
  | 9 => t.c_BadSystem
  | 8 => t.c_NoLetter
  | 7 => t.c_NoPlace
  | 2 => t.c_DividedByNought
  | 20 => t.c_NoMark
  | 17 => t.c_LackingLetter
  | 16 => t.c_BadPoint
  | 15 => t.c_BadProgram
  | 24 => t.c_BadLot
  | 23 => t.c_BadPrefix
  | 22 => t.c_BadSaying
  | 14 => t.c_HasFree
  | 13 => t.c_ZeroNote
  | 12 => t.c_NotMonic
  | 11 => t.c_OtherLetters
  | 21 => t.c_NoneMarked
  | 19 => t.c_NotOne
  | 18 => t.c_NoPoint
  | 25 => t.c_NoFree
  | _ => 0
/-- what the top has written -/
structure Top (K : PySem.W.Frag) (mg : Str → Option Value) (t : Adr) : Prop where
  g__law_start : mg "_law_start" = some (.ref t.a__law_start)
  F__law_start : Fun K "_law_start" "_law_start" s__law_start t.a__law_start t.fd__law_start
  b__law_start : Binds K t.fd__law_start ["_law_script"] []
  g__law_mixed : mg "_law_mixed" = some (.ref t.a__law_mixed)
  F__law_mixed : Fun K "_law_mixed" "_law_mixed" s__law_mixed t.a__law_mixed t.fd__law_mixed
  b__law_mixed : Binds K t.fd__law_mixed ["_law_number", "_law_turn"] []
  g__law_draw : mg "_law_draw" = some (.ref t.a__law_draw)
  F__law_draw : Fun K "_law_draw" "_law_draw" s__law_draw t.a__law_draw t.fd__law_draw
  b__law_draw : Binds K t.fd__law_draw ["_law_hand", "_law_many"] []
  g__law_word : mg "_law_word" = some (.ref t.a__law_word)
  F__law_word : Fun K "_law_word" "_law_word" s__law_word t.a__law_word t.fd__law_word
  b__law_word : Binds K t.fd__law_word ["_law_hand"] []
  g__law_gcd : mg "_law_gcd" = some (.ref t.a__law_gcd)
  F__law_gcd : Fun K "_law_gcd" "_law_gcd" s__law_gcd t.a__law_gcd t.fd__law_gcd
  b__law_gcd : Binds K t.fd__law_gcd ["_law_a", "_law_b"] []
  g__law_ratio : mg "_law_ratio" = some (.ref t.a__law_ratio)
  F__law_ratio : Fun K "_law_ratio" "_law_ratio" s__law_ratio t.a__law_ratio t.fd__law_ratio
  b__law_ratio : Binds K t.fd__law_ratio ["_law_top", "_law_bottom"] []
  g__law_small : mg "_law_small" = some (.ref t.a__law_small)
  F__law_small : Fun K "_law_small" "_law_small" s__law_small t.a__law_small t.fd__law_small
  b__law_small : Binds K t.fd__law_small ["_law_hand"] []
  g__law_first : mg "_law_first" = some (.ref t.a__law_first)
  F__law_first : Fun K "_law_first" "_law_first" s__law_first t.a__law_first t.fd__law_first
  b__law_first : Binds K t.fd__law_first ["_law_at", "_law_to", "_law_word_here", "_law_ratio_here"] []
  g__law_second : mg "_law_second" = some (.ref t.a__law_second)
  F__law_second : Fun K "_law_second" "_law_second" s__law_second t.a__law_second t.fd__law_second
  b__law_second : Binds K t.fd__law_second ["_law_at", "_law_to", "_law_word_here", "_law_ratio_here"] []
  g__law_classes : mg "_law_classes" = some (.ref t.a__law_classes)
  F__law_classes : Fun K "_law_classes" "_law_classes" s__law_classes t.a__law_classes t.fd__law_classes
  b__law_classes : Binds K t.fd__law_classes ["_law_e"] []
  g__law_raised : mg "_law_raised" = some (.ref t.a__law_raised)
  F__law_raised : Fun K "_law_raised" "_law_raised" s__law_raised t.a__law_raised t.fd__law_raised
  b__law_raised : Binds K t.fd__law_raised ["_law_at", "_law_to", "_law_word_here"] []
  g_law : mg "law" = some (.ref t.a_law)
  F_law : Fun K "law" "law" s_law t.a_law t.fd_law
  b_law : Binds K t.fd_law ["_law_script"] []
  g_RootError : mg "RootError" = some (.ref t.c_RootError)
  ec_RootError : t.c_RootError = He.ga K "RootError"
  xn_RootError : PySem.W.excIn K t.c_RootError He.veBase "ValueError.__new__" = true
  xk_RootError : PySem.W.keepIn K (.ref t.c_RootError) = true
  g_BadTower : mg "BadTower" = some (.ref t.c_BadTower)
  ec_BadTower : t.c_BadTower = He.ga K "BadTower"
  ox_BadTower : OexC K t.c_BadTower
  i_BadTower : PySem.W.findIn K (.ref t.c_BadTower) "__init__" = some (some (.ref t.ai_BadTower))
  ti_BadTower : PySem.W.typeIn K (.ref t.ai_BadTower) = some (.type "function")
  Fi_BadTower : Fun K "__init__" "BadTower.__init__" si_BadTower t.ai_BadTower t.fi_BadTower
  bi_BadTower : Binds K t.fi_BadTower ["self", "what", "place"] []
  no_BadTower : ∀ f ∈ (["what", "place"] : List Str), PySem.W.findIn K (.ref t.c_BadTower) f = some none
  xf_BadTower : XfC K t.c_BadTower
  g_BadText : mg "BadText" = some (.ref t.c_BadText)
  ec_BadText : t.c_BadText = He.ga K "BadText"
  ox_BadText : OexC K t.c_BadText
  i_BadText : PySem.W.findIn K (.ref t.c_BadText) "__init__" = some (some (.ref t.ai_BadText))
  ti_BadText : PySem.W.typeIn K (.ref t.ai_BadText) = some (.type "function")
  Fi_BadText : Fun K "__init__" "BadText.__init__" si_BadText t.ai_BadText t.fi_BadText
  bi_BadText : Binds K t.fi_BadText ["self", "line", "what"] []
  no_BadText : ∀ f ∈ (["line", "what"] : List Str), PySem.W.findIn K (.ref t.c_BadText) f = some none
  xf_BadText : XfC K t.c_BadText
  g_BadElement : mg "BadElement" = some (.ref t.c_BadElement)
  ec_BadElement : t.c_BadElement = He.ga K "BadElement"
  ox_BadElement : OexC K t.c_BadElement
  i_BadElement : PySem.W.findIn K (.ref t.c_BadElement) "__init__" = some (some (.ref t.ai_BadElement))
  ti_BadElement : PySem.W.typeIn K (.ref t.ai_BadElement) = some (.type "function")
  Fi_BadElement : Fun K "__init__" "BadElement.__init__" si_BadElement t.ai_BadElement t.fi_BadElement
  bi_BadElement : Binds K t.fi_BadElement ["self", "index"] []
  no_BadElement : ∀ f ∈ (["index"] : List Str), PySem.W.findIn K (.ref t.c_BadElement) f = some none
  xf_BadElement : XfC K t.c_BadElement
  g_Pole : mg "Pole" = some (.ref t.c_Pole)
  ec_Pole : t.c_Pole = He.ga K "Pole"
  ox_Pole : OexC K t.c_Pole
  i_Pole : PySem.W.findIn K (.ref t.c_Pole) "__init__" = some (some (.ref t.ai_Pole))
  ti_Pole : PySem.W.typeIn K (.ref t.ai_Pole) = some (.type "function")
  Fi_Pole : Fun K "__init__" "Pole.__init__" si_Pole t.ai_Pole t.fi_Pole
  bi_Pole : Binds K t.fi_Pole ["self", "at"] []
  no_Pole : ∀ f ∈ (["at"] : List Str), PySem.W.findIn K (.ref t.c_Pole) f = some none
  xf_Pole : XfC K t.c_Pole
  g_BadRatio : mg "BadRatio" = some (.ref t.c_BadRatio)
  ec_BadRatio : t.c_BadRatio = He.ga K "BadRatio"
  ox_BadRatio : OexC K t.c_BadRatio
  i_BadRatio : PySem.W.findIn K (.ref t.c_BadRatio) "__init__" = some (some (.ref t.ai_BadRatio))
  ti_BadRatio : PySem.W.typeIn K (.ref t.ai_BadRatio) = some (.type "function")
  Fi_BadRatio : Fun K "__init__" "BadRatio.__init__" si_BadRatio t.ai_BadRatio t.fi_BadRatio
  bi_BadRatio : Binds K t.fi_BadRatio ["self", "what"] []
  no_BadRatio : ∀ f ∈ (["what"] : List Str), PySem.W.findIn K (.ref t.c_BadRatio) f = some none
  xf_BadRatio : XfC K t.c_BadRatio
  g_TooMany : mg "TooMany" = some (.ref t.c_TooMany)
  ec_TooMany : t.c_TooMany = He.ga K "TooMany"
  ox_TooMany : OexC K t.c_TooMany
  i_TooMany : PySem.W.findIn K (.ref t.c_TooMany) "__init__" = some (some (.ref t.ai_TooMany))
  ti_TooMany : PySem.W.typeIn K (.ref t.ai_TooMany) = some (.type "function")
  Fi_TooMany : Fun K "__init__" "TooMany.__init__" si_TooMany t.ai_TooMany t.fi_TooMany
  bi_TooMany : Binds K t.fi_TooMany ["self", "most"] []
  no_TooMany : ∀ f ∈ (["most"] : List Str), PySem.W.findIn K (.ref t.c_TooMany) f = some none
  xf_TooMany : XfC K t.c_TooMany
  g_BadSystem : mg "BadSystem" = some (.ref t.c_BadSystem)
  ec_BadSystem : t.c_BadSystem = He.ga K "BadSystem"
  ox_BadSystem : OexC K t.c_BadSystem
  i_BadSystem : PySem.W.findIn K (.ref t.c_BadSystem) "__init__" = some (some (.ref t.ai_BadSystem))
  ti_BadSystem : PySem.W.typeIn K (.ref t.ai_BadSystem) = some (.type "function")
  Fi_BadSystem : Fun K "__init__" "BadSystem.__init__" si_BadSystem t.ai_BadSystem t.fi_BadSystem
  bi_BadSystem : Binds K t.fi_BadSystem ["self", "what", "place"] []
  no_BadSystem : ∀ f ∈ (["what", "place"] : List Str), PySem.W.findIn K (.ref t.c_BadSystem) f = some none
  xf_BadSystem : XfC K t.c_BadSystem
  g_NoLetter : mg "NoLetter" = some (.ref t.c_NoLetter)
  ec_NoLetter : t.c_NoLetter = He.ga K "NoLetter"
  ox_NoLetter : OexC K t.c_NoLetter
  i_NoLetter : PySem.W.findIn K (.ref t.c_NoLetter) "__init__" = some (some (.ref t.ai_NoLetter))
  ti_NoLetter : PySem.W.typeIn K (.ref t.ai_NoLetter) = some (.type "function")
  Fi_NoLetter : Fun K "__init__" "NoLetter.__init__" si_NoLetter t.ai_NoLetter t.fi_NoLetter
  bi_NoLetter : Binds K t.fi_NoLetter ["self", "letter"] []
  no_NoLetter : ∀ f ∈ (["letter"] : List Str), PySem.W.findIn K (.ref t.c_NoLetter) f = some none
  xf_NoLetter : XfC K t.c_NoLetter
  g_NoPlace : mg "NoPlace" = some (.ref t.c_NoPlace)
  ec_NoPlace : t.c_NoPlace = He.ga K "NoPlace"
  ox_NoPlace : OexC K t.c_NoPlace
  i_NoPlace : PySem.W.findIn K (.ref t.c_NoPlace) "__init__" = some (some (.ref t.ai_NoPlace))
  ti_NoPlace : PySem.W.typeIn K (.ref t.ai_NoPlace) = some (.type "function")
  Fi_NoPlace : Fun K "__init__" "NoPlace.__init__" si_NoPlace t.ai_NoPlace t.fi_NoPlace
  bi_NoPlace : Binds K t.fi_NoPlace ["self", "place"] []
  no_NoPlace : ∀ f ∈ (["place"] : List Str), PySem.W.findIn K (.ref t.c_NoPlace) f = some none
  xf_NoPlace : XfC K t.c_NoPlace
  g_DividedByNought : mg "DividedByNought" = some (.ref t.c_DividedByNought)
  ec_DividedByNought : t.c_DividedByNought = He.ga K "DividedByNought"
  ox_DividedByNought : OexC K t.c_DividedByNought
  i_DividedByNought : PySem.W.findIn K (.ref t.c_DividedByNought) "__init__" = some (some (.ref t.ai_DividedByNought))
  ti_DividedByNought : PySem.W.typeIn K (.ref t.ai_DividedByNought) = some (.type "function")
  Fi_DividedByNought : Fun K "__init__" "DividedByNought.__init__" si_DividedByNought t.ai_DividedByNought t.fi_DividedByNought
  bi_DividedByNought : Binds K t.fi_DividedByNought ["self"] []
  no_DividedByNought : ∀ f ∈ ([] : List Str), PySem.W.findIn K (.ref t.c_DividedByNought) f = some none
  xf_DividedByNought : XfC K t.c_DividedByNought
  g_NoMark : mg "NoMark" = some (.ref t.c_NoMark)
  ec_NoMark : t.c_NoMark = He.ga K "NoMark"
  ox_NoMark : OexC K t.c_NoMark
  i_NoMark : PySem.W.findIn K (.ref t.c_NoMark) "__init__" = some (some (.ref t.ai_NoMark))
  ti_NoMark : PySem.W.typeIn K (.ref t.ai_NoMark) = some (.type "function")
  Fi_NoMark : Fun K "__init__" "NoMark.__init__" si_NoMark t.ai_NoMark t.fi_NoMark
  bi_NoMark : Binds K t.fi_NoMark ["self", "mark"] []
  no_NoMark : ∀ f ∈ (["mark"] : List Str), PySem.W.findIn K (.ref t.c_NoMark) f = some none
  xf_NoMark : XfC K t.c_NoMark
  g_LackingLetter : mg "LackingLetter" = some (.ref t.c_LackingLetter)
  ec_LackingLetter : t.c_LackingLetter = He.ga K "LackingLetter"
  ox_LackingLetter : OexC K t.c_LackingLetter
  i_LackingLetter : PySem.W.findIn K (.ref t.c_LackingLetter) "__init__" = some (some (.ref t.ai_LackingLetter))
  ti_LackingLetter : PySem.W.typeIn K (.ref t.ai_LackingLetter) = some (.type "function")
  Fi_LackingLetter : Fun K "__init__" "LackingLetter.__init__" si_LackingLetter t.ai_LackingLetter t.fi_LackingLetter
  bi_LackingLetter : Binds K t.fi_LackingLetter ["self", "letter"] []
  no_LackingLetter : ∀ f ∈ (["letter"] : List Str), PySem.W.findIn K (.ref t.c_LackingLetter) f = some none
  xf_LackingLetter : XfC K t.c_LackingLetter
  g_BadPoint : mg "BadPoint" = some (.ref t.c_BadPoint)
  ec_BadPoint : t.c_BadPoint = He.ga K "BadPoint"
  ox_BadPoint : OexC K t.c_BadPoint
  i_BadPoint : PySem.W.findIn K (.ref t.c_BadPoint) "__init__" = some (some (.ref t.ai_BadPoint))
  ti_BadPoint : PySem.W.typeIn K (.ref t.ai_BadPoint) = some (.type "function")
  Fi_BadPoint : Fun K "__init__" "BadPoint.__init__" si_BadPoint t.ai_BadPoint t.fi_BadPoint
  bi_BadPoint : Binds K t.fi_BadPoint ["self", "index", "what"] []
  no_BadPoint : ∀ f ∈ (["index", "what"] : List Str), PySem.W.findIn K (.ref t.c_BadPoint) f = some none
  xf_BadPoint : XfC K t.c_BadPoint
  g_BadProgram : mg "BadProgram" = some (.ref t.c_BadProgram)
  ec_BadProgram : t.c_BadProgram = He.ga K "BadProgram"
  ox_BadProgram : OexC K t.c_BadProgram
  i_BadProgram : PySem.W.findIn K (.ref t.c_BadProgram) "__init__" = some (some (.ref t.ai_BadProgram))
  ti_BadProgram : PySem.W.typeIn K (.ref t.ai_BadProgram) = some (.type "function")
  Fi_BadProgram : Fun K "__init__" "BadProgram.__init__" si_BadProgram t.ai_BadProgram t.fi_BadProgram
  bi_BadProgram : Binds K t.fi_BadProgram ["self", "line", "what"] []
  no_BadProgram : ∀ f ∈ (["line", "what"] : List Str), PySem.W.findIn K (.ref t.c_BadProgram) f = some none
  xf_BadProgram : XfC K t.c_BadProgram
  g_BadLot : mg "BadLot" = some (.ref t.c_BadLot)
  ec_BadLot : t.c_BadLot = He.ga K "BadLot"
  ox_BadLot : OexC K t.c_BadLot
  i_BadLot : PySem.W.findIn K (.ref t.c_BadLot) "__init__" = some (some (.ref t.ai_BadLot))
  ti_BadLot : PySem.W.typeIn K (.ref t.ai_BadLot) = some (.type "function")
  Fi_BadLot : Fun K "__init__" "BadLot.__init__" si_BadLot t.ai_BadLot t.fi_BadLot
  bi_BadLot : Binds K t.fi_BadLot ["self", "what"] []
  no_BadLot : ∀ f ∈ (["what"] : List Str), PySem.W.findIn K (.ref t.c_BadLot) f = some none
  xf_BadLot : XfC K t.c_BadLot
  g_BadPrefix : mg "BadPrefix" = some (.ref t.c_BadPrefix)
  ec_BadPrefix : t.c_BadPrefix = He.ga K "BadPrefix"
  ox_BadPrefix : OexC K t.c_BadPrefix
  i_BadPrefix : PySem.W.findIn K (.ref t.c_BadPrefix) "__init__" = some (some (.ref t.ai_BadPrefix))
  ti_BadPrefix : PySem.W.typeIn K (.ref t.ai_BadPrefix) = some (.type "function")
  Fi_BadPrefix : Fun K "__init__" "BadPrefix.__init__" si_BadPrefix t.ai_BadPrefix t.fi_BadPrefix
  bi_BadPrefix : Binds K t.fi_BadPrefix ["self", "many"] []
  no_BadPrefix : ∀ f ∈ (["many"] : List Str), PySem.W.findIn K (.ref t.c_BadPrefix) f = some none
  xf_BadPrefix : XfC K t.c_BadPrefix
  g_BadSaying : mg "BadSaying" = some (.ref t.c_BadSaying)
  ec_BadSaying : t.c_BadSaying = He.ga K "BadSaying"
  ox_BadSaying : OexC K t.c_BadSaying
  i_BadSaying : PySem.W.findIn K (.ref t.c_BadSaying) "__init__" = some (some (.ref t.ai_BadSaying))
  ti_BadSaying : PySem.W.typeIn K (.ref t.ai_BadSaying) = some (.type "function")
  Fi_BadSaying : Fun K "__init__" "BadSaying.__init__" si_BadSaying t.ai_BadSaying t.fi_BadSaying
  bi_BadSaying : Binds K t.fi_BadSaying ["self", "what"] []
  no_BadSaying : ∀ f ∈ (["what"] : List Str), PySem.W.findIn K (.ref t.c_BadSaying) f = some none
  xf_BadSaying : XfC K t.c_BadSaying
  g_HasFree : mg "HasFree" = some (.ref t.c_HasFree)
  ec_HasFree : t.c_HasFree = He.ga K "HasFree"
  ox_HasFree : OexC K t.c_HasFree
  i_HasFree : PySem.W.findIn K (.ref t.c_HasFree) "__init__" = some (some (.ref t.ai_HasFree))
  ti_HasFree : PySem.W.typeIn K (.ref t.ai_HasFree) = some (.type "function")
  Fi_HasFree : Fun K "__init__" "HasFree.__init__" si_HasFree t.ai_HasFree t.fi_HasFree
  bi_HasFree : Binds K t.fi_HasFree ["self"] []
  no_HasFree : ∀ f ∈ ([] : List Str), PySem.W.findIn K (.ref t.c_HasFree) f = some none
  xf_HasFree : XfC K t.c_HasFree
  g_ZeroNote : mg "ZeroNote" = some (.ref t.c_ZeroNote)
  ec_ZeroNote : t.c_ZeroNote = He.ga K "ZeroNote"
  ox_ZeroNote : OexC K t.c_ZeroNote
  i_ZeroNote : PySem.W.findIn K (.ref t.c_ZeroNote) "__init__" = some (some (.ref t.ai_ZeroNote))
  ti_ZeroNote : PySem.W.typeIn K (.ref t.ai_ZeroNote) = some (.type "function")
  Fi_ZeroNote : Fun K "__init__" "ZeroNote.__init__" si_ZeroNote t.ai_ZeroNote t.fi_ZeroNote
  bi_ZeroNote : Binds K t.fi_ZeroNote ["self"] []
  no_ZeroNote : ∀ f ∈ ([] : List Str), PySem.W.findIn K (.ref t.c_ZeroNote) f = some none
  xf_ZeroNote : XfC K t.c_ZeroNote
  g_NotMonic : mg "NotMonic" = some (.ref t.c_NotMonic)
  ec_NotMonic : t.c_NotMonic = He.ga K "NotMonic"
  ox_NotMonic : OexC K t.c_NotMonic
  i_NotMonic : PySem.W.findIn K (.ref t.c_NotMonic) "__init__" = some (some (.ref t.ai_NotMonic))
  ti_NotMonic : PySem.W.typeIn K (.ref t.ai_NotMonic) = some (.type "function")
  Fi_NotMonic : Fun K "__init__" "NotMonic.__init__" si_NotMonic t.ai_NotMonic t.fi_NotMonic
  bi_NotMonic : Binds K t.fi_NotMonic ["self"] []
  no_NotMonic : ∀ f ∈ ([] : List Str), PySem.W.findIn K (.ref t.c_NotMonic) f = some none
  xf_NotMonic : XfC K t.c_NotMonic
  g_OtherLetters : mg "OtherLetters" = some (.ref t.c_OtherLetters)
  ec_OtherLetters : t.c_OtherLetters = He.ga K "OtherLetters"
  ox_OtherLetters : OexC K t.c_OtherLetters
  i_OtherLetters : PySem.W.findIn K (.ref t.c_OtherLetters) "__init__" = some (some (.ref t.ai_OtherLetters))
  ti_OtherLetters : PySem.W.typeIn K (.ref t.ai_OtherLetters) = some (.type "function")
  Fi_OtherLetters : Fun K "__init__" "OtherLetters.__init__" si_OtherLetters t.ai_OtherLetters t.fi_OtherLetters
  bi_OtherLetters : Binds K t.fi_OtherLetters ["self"] []
  no_OtherLetters : ∀ f ∈ ([] : List Str), PySem.W.findIn K (.ref t.c_OtherLetters) f = some none
  xf_OtherLetters : XfC K t.c_OtherLetters
  g_NoneMarked : mg "NoneMarked" = some (.ref t.c_NoneMarked)
  ec_NoneMarked : t.c_NoneMarked = He.ga K "NoneMarked"
  ox_NoneMarked : OexC K t.c_NoneMarked
  i_NoneMarked : PySem.W.findIn K (.ref t.c_NoneMarked) "__init__" = some (some (.ref t.ai_NoneMarked))
  ti_NoneMarked : PySem.W.typeIn K (.ref t.ai_NoneMarked) = some (.type "function")
  Fi_NoneMarked : Fun K "__init__" "NoneMarked.__init__" si_NoneMarked t.ai_NoneMarked t.fi_NoneMarked
  bi_NoneMarked : Binds K t.fi_NoneMarked ["self"] []
  no_NoneMarked : ∀ f ∈ ([] : List Str), PySem.W.findIn K (.ref t.c_NoneMarked) f = some none
  xf_NoneMarked : XfC K t.c_NoneMarked
  g_NotOne : mg "NotOne" = some (.ref t.c_NotOne)
  ec_NotOne : t.c_NotOne = He.ga K "NotOne"
  xn_NotOne : PySem.W.excIn K t.c_NotOne He.veBase "ValueError.__new__" = true
  xk_NotOne : PySem.W.keepIn K (.ref t.c_NotOne) = true
  g_NoPoint : mg "NoPoint" = some (.ref t.c_NoPoint)
  ec_NoPoint : t.c_NoPoint = He.ga K "NoPoint"
  ox_NoPoint : OexC K t.c_NoPoint
  i_NoPoint : PySem.W.findIn K (.ref t.c_NoPoint) "__init__" = some (some (.ref t.ai_NoPoint))
  ti_NoPoint : PySem.W.typeIn K (.ref t.ai_NoPoint) = some (.type "function")
  Fi_NoPoint : Fun K "__init__" "NoPoint.__init__" si_NoPoint t.ai_NoPoint t.fi_NoPoint
  bi_NoPoint : Binds K t.fi_NoPoint ["self"] []
  no_NoPoint : ∀ f ∈ ([] : List Str), PySem.W.findIn K (.ref t.c_NoPoint) f = some none
  xf_NoPoint : XfC K t.c_NoPoint
  g_NoFree : mg "NoFree" = some (.ref t.c_NoFree)
  ec_NoFree : t.c_NoFree = He.ga K "NoFree"
  xn_NoFree : PySem.W.excIn K t.c_NoFree He.veBase "ValueError.__new__" = true
  xk_NoFree : PySem.W.keepIn K (.ref t.c_NoFree) = true
  isA_RootError : ∀ e b, isA_RootError e = some b → PySem.W.exmOne K (.ref (cx t e)) (.ref t.c_RootError) = some b
  isA_NoPoint : ∀ e b, isA_NoPoint e = some b → PySem.W.exmOne K (.ref (cx t e)) (.ref t.c_NoPoint) = some b
  isA_BadText : ∀ e b, isA_BadText e = some b → PySem.W.exmOne K (.ref (cx t e)) (.ref t.c_BadText) = some b
  isA_BadTower : ∀ e b, isA_BadTower e = some b → PySem.W.exmOne K (.ref (cx t e)) (.ref t.c_BadTower) = some b
  isA_BadSystem : ∀ e b, isA_BadSystem e = some b → PySem.W.exmOne K (.ref (cx t e)) (.ref t.c_BadSystem) = some b
  isV_RootError : ∀ cn b, isV_RootError cn = some b → ExcK K (He.ga K cn) ∧ PySem.W.kitOne K (.ref (He.ga K cn)) (.ref t.c_RootError) = some b
  isV_ValueError : ∀ cn b, isV_ValueError cn = some b → ExcK K (He.ga K cn) ∧ PySem.W.kitOne K (.ref (He.ga K cn)) (.type "ValueError") = some b
  isV_LookupError : ∀ cn b, isV_LookupError cn = some b → ExcK K (He.ga K cn) ∧ PySem.W.kitOne K (.ref (He.ga K cn)) (.type "LookupError") = some b
  isV_ArithmeticError : ∀ cn b, isV_ArithmeticError cn = some b → ExcK K (He.ga K cn) ∧ PySem.W.kitOne K (.ref (He.ga K cn)) (.type "ArithmeticError") = some b
  isV_BadElement : ∀ cn b, isV_BadElement cn = some b → ExcK K (He.ga K cn) ∧ PySem.W.kitOne K (.ref (He.ga K cn)) (.ref t.c_BadElement) = some b
  isV_Pole : ∀ cn b, isV_Pole cn = some b → ExcK K (He.ga K cn) ∧ PySem.W.kitOne K (.ref (He.ga K cn)) (.ref t.c_Pole) = some b
  isV_DividedByNought : ∀ cn b, isV_DividedByNought cn = some b → ExcK K (He.ga K cn) ∧ PySem.W.kitOne K (.ref (He.ga K cn)) (.ref t.c_DividedByNought) = some b
  isV_BadRatio : ∀ cn b, isV_BadRatio cn = some b → ExcK K (He.ga K cn) ∧ PySem.W.kitOne K (.ref (He.ga K cn)) (.ref t.c_BadRatio) = some b
  isV_NoLetter : ∀ cn b, isV_NoLetter cn = some b → ExcK K (He.ga K cn) ∧ PySem.W.kitOne K (.ref (He.ga K cn)) (.ref t.c_NoLetter) = some b
  isV_NoPlace : ∀ cn b, isV_NoPlace cn = some b → ExcK K (He.ga K cn) ∧ PySem.W.kitOne K (.ref (He.ga K cn)) (.ref t.c_NoPlace) = some b
  isV_BadTower : ∀ cn b, isV_BadTower cn = some b → ExcK K (He.ga K cn) ∧ PySem.W.kitOne K (.ref (He.ga K cn)) (.ref t.c_BadTower) = some b
  isV_BadText : ∀ cn b, isV_BadText cn = some b → ExcK K (He.ga K cn) ∧ PySem.W.kitOne K (.ref (He.ga K cn)) (.ref t.c_BadText) = some b
  isV_NotMonic : ∀ cn b, isV_NotMonic cn = some b → ExcK K (He.ga K cn) ∧ PySem.W.kitOne K (.ref (He.ga K cn)) (.ref t.c_NotMonic) = some b
  isV_OtherLetters : ∀ cn b, isV_OtherLetters cn = some b → ExcK K (He.ga K cn) ∧ PySem.W.kitOne K (.ref (He.ga K cn)) (.ref t.c_OtherLetters) = some b
  isV_TooMany : ∀ cn b, isV_TooMany cn = some b → ExcK K (He.ga K cn) ∧ PySem.W.kitOne K (.ref (He.ga K cn)) (.ref t.c_TooMany) = some b
  isV_BadSystem : ∀ cn b, isV_BadSystem cn = some b → ExcK K (He.ga K cn) ∧ PySem.W.kitOne K (.ref (He.ga K cn)) (.ref t.c_BadSystem) = some b
  isV_BadPoint : ∀ cn b, isV_BadPoint cn = some b → ExcK K (He.ga K cn) ∧ PySem.W.kitOne K (.ref (He.ga K cn)) (.ref t.c_BadPoint) = some b
  isV_BadProgram : ∀ cn b, isV_BadProgram cn = some b → ExcK K (He.ga K cn) ∧ PySem.W.kitOne K (.ref (He.ga K cn)) (.ref t.c_BadProgram) = some b
  isV_HasFree : ∀ cn b, isV_HasFree cn = some b → ExcK K (He.ga K cn) ∧ PySem.W.kitOne K (.ref (He.ga K cn)) (.ref t.c_HasFree) = some b
  isV_ZeroNote : ∀ cn b, isV_ZeroNote cn = some b → ExcK K (He.ga K cn) ∧ PySem.W.kitOne K (.ref (He.ga K cn)) (.ref t.c_ZeroNote) = some b
  isV_NoMark : ∀ cn b, isV_NoMark cn = some b → ExcK K (He.ga K cn) ∧ PySem.W.kitOne K (.ref (He.ga K cn)) (.ref t.c_NoMark) = some b
  isV_NotOne : ∀ cn b, isV_NotOne cn = some b → ExcK K (He.ga K cn) ∧ PySem.W.kitOne K (.ref (He.ga K cn)) (.ref t.c_NotOne) = some b
  isV_NoPoint : ∀ cn b, isV_NoPoint cn = some b → ExcK K (He.ga K cn) ∧ PySem.W.kitOne K (.ref (He.ga K cn)) (.ref t.c_NoPoint) = some b
  isV_LackingLetter : ∀ cn b, isV_LackingLetter cn = some b → ExcK K (He.ga K cn) ∧ PySem.W.kitOne K (.ref (He.ga K cn)) (.ref t.c_LackingLetter) = some b
  isV_BadLot : ∀ cn b, isV_BadLot cn = some b → ExcK K (He.ga K cn) ∧ PySem.W.kitOne K (.ref (He.ga K cn)) (.ref t.c_BadLot) = some b
  isV_BadPrefix : ∀ cn b, isV_BadPrefix cn = some b → ExcK K (He.ga K cn) ∧ PySem.W.kitOne K (.ref (He.ga K cn)) (.ref t.c_BadPrefix) = some b
  isV_BadSaying : ∀ cn b, isV_BadSaying cn = some b → ExcK K (He.ga K cn) ∧ PySem.W.kitOne K (.ref (He.ga K cn)) (.ref t.c_BadSaying) = some b
  isV_NoneMarked : ∀ cn b, isV_NoneMarked cn = some b → ExcK K (He.ga K cn) ∧ PySem.W.kitOne K (.ref (He.ga K cn)) (.ref t.c_NoneMarked) = some b
  isV_NoFree : ∀ cn b, isV_NoFree cn = some b → ExcK K (He.ga K cn) ∧ PySem.W.kitOne K (.ref (He.ga K cn)) (.ref t.c_NoFree) = some b
  isS_BadTower : ∀ e b, isS_BadTower e = some b → ExcK K (cx t e) ∧ PySem.W.kitOne K (.ref (cx t e)) (.ref t.c_BadTower) = some b
  isS_BadSystem : ∀ e b, isS_BadSystem e = some b → ExcK K (cx t e) ∧ PySem.W.kitOne K (.ref (cx t e)) (.ref t.c_BadSystem) = some b
  xo_index : ∀ cn, okF_index cn = true → XfC K (He.ga K cn) ∧ PySem.W.findIn K (.ref (He.ga K cn)) "index" = some none
  xo_at : ∀ cn, okF_at cn = true → XfC K (He.ga K cn) ∧ PySem.W.findIn K (.ref (He.ga K cn)) "at" = some none
  xo_what : ∀ cn, okF_what cn = true → XfC K (He.ga K cn) ∧ PySem.W.findIn K (.ref (He.ga K cn)) "what" = some none
  xo_place : ∀ cn, okF_place cn = true → XfC K (He.ga K cn) ∧ PySem.W.findIn K (.ref (He.ga K cn)) "place" = some none
  xo_line : ∀ cn, okF_line cn = true → XfC K (He.ga K cn) ∧ PySem.W.findIn K (.ref (He.ga K cn)) "line" = some none
  xo_most : ∀ cn, okF_most cn = true → XfC K (He.ga K cn) ∧ PySem.W.findIn K (.ref (He.ga K cn)) "most" = some none
  xo_letter : ∀ cn, okF_letter cn = true → XfC K (He.ga K cn) ∧ PySem.W.findIn K (.ref (He.ga K cn)) "letter" = some none
  xo_mark : ∀ cn, okF_mark cn = true → XfC K (He.ga K cn) ∧ PySem.W.findIn K (.ref (He.ga K cn)) "mark" = some none
  xo_many : ∀ cn, okF_many cn = true → XfC K (He.ga K cn) ∧ PySem.W.findIn K (.ref (He.ga K cn)) "many" = some none
  ri1_RootError : PySem.W.specialIn K (.ref t.c_RootError) "__getattribute__" = some (some (.builtin "type.__getattribute__"))
  ri2_RootError : PySem.W.typeIn K (.ref t.c_RootError) = some (.type "type")
  ri3_RootError : PySem.W.readsIn K t.c_RootError (.type "type") = true
  ri4_RootError : PySem.W.findCls K (.ref t.c_RootError) (.type "type") "__init__" = some (.val (.builtin "ValueError.__init__"))
  rk_BadText_line_what : KBn K t.fi_BadText ["self", "line", "what"] 1 ["line", "what"] (fun us ws => us ++ prm_BadText_line_what ws) (fun vs zs => vs ++ prm_BadText_line_what zs)
  rk_BadSystem_place_what : KBn K t.fi_BadSystem ["self", "what", "place"] 1 ["place", "what"] (fun us ws => us ++ prm_BadSystem_place_what ws) (fun vs zs => vs ++ prm_BadSystem_place_what zs)
  z_ArithmeticError : mg "ArithmeticError" = none
  z_LookupError : mg "LookupError" = none
  z_ValueError : mg "ValueError" = none
  z_abs : mg "abs" = none
  z_any : mg "any" = none
  z_int : mg "int" = none
  z_isinstance : mg "isinstance" = none
  z_len : mg "len" = none
  z_range : mg "range" = none
section
variable {P : Program} {w : World} {K : PySem.W.Frag} {mg : Str → Option Value} {base : Heap} {t : Adr}
theorem ok_init_BadTower (T : Top K mg t) : FnOk P w K mg base (L2.CX P w) 1 t.ai_BadTower t.fi_BadTower ["self", "what", "place"] (spInit K ["what", "place"]) := T.Fi_BadTower.okX sci_BadTower (spInit_len rfl) fun cdv A outer s H vs Q E hr h => ⟨_, (pss_cons (ps_expr (pe_rinit rfl T.g_RootError T.ri1_RootError T.ri2_RootError T.ri3_RootError T.ri4_RootError (pa_cons (pv 0) (pa_cons pe_str pa_nil)))) (pss_cons (ps_ost (pv 0) (pv 1)) (pss_one (ps_ost (pv 0) (pv 2))))), init2R h⟩
theorem ok_init_BadText (T : Top K mg t) : FnOk P w K mg base (L2.CX P w) 1 t.ai_BadText t.fi_BadText ["self", "line", "what"] (spInit K ["line", "what"]) := T.Fi_BadText.okX sci_BadText (spInit_len rfl) fun cdv A outer s H vs Q E hr h => ⟨_, (pss_cons (ps_ost (pv 0) (pv 1)) (pss_one (ps_ost (pv 0) (pv 2)))), init2 h⟩
theorem ok_init_BadElement (T : Top K mg t) : FnOk P w K mg base (L2.CX P w) 1 t.ai_BadElement t.fi_BadElement ["self", "index"] (spInit K ["index"]) := T.Fi_BadElement.okX sci_BadElement (spInit_len rfl) fun cdv A outer s H vs Q E hr h => ⟨_, (pss_one (ps_ost (pv 0) (pv 1))), init1 h⟩
theorem ok_init_Pole (T : Top K mg t) : FnOk P w K mg base (L2.CX P w) 1 t.ai_Pole t.fi_Pole ["self", "at"] (spInit K ["at"]) := T.Fi_Pole.okX sci_Pole (spInit_len rfl) fun cdv A outer s H vs Q E hr h => ⟨_, (pss_one (ps_ost (pv 0) (pv 1))), init1 h⟩
theorem ok_init_BadRatio (T : Top K mg t) : FnOk P w K mg base (L2.CX P w) 1 t.ai_BadRatio t.fi_BadRatio ["self", "what"] (spInit K ["what"]) := T.Fi_BadRatio.okX sci_BadRatio (spInit_len rfl) fun cdv A outer s H vs Q E hr h => ⟨_, (pss_one (ps_ost (pv 0) (pv 1))), init1 h⟩
theorem ok_init_TooMany (T : Top K mg t) : FnOk P w K mg base (L2.CX P w) 1 t.ai_TooMany t.fi_TooMany ["self", "most"] (spInit K ["most"]) := T.Fi_TooMany.okX sci_TooMany (spInit_len rfl) fun cdv A outer s H vs Q E hr h => ⟨_, (pss_cons (ps_expr (pe_rinit rfl T.g_RootError T.ri1_RootError T.ri2_RootError T.ri3_RootError T.ri4_RootError (pa_cons (pv 0) (pa_cons pe_str pa_nil)))) (pss_one (ps_ost (pv 0) (pv 1)))), init1R h⟩
theorem ok_init_BadSystem (T : Top K mg t) : FnOk P w K mg base (L2.CX P w) 1 t.ai_BadSystem t.fi_BadSystem ["self", "what", "place"] (spInit K ["what", "place"]) := T.Fi_BadSystem.okX sci_BadSystem (spInit_len rfl) fun cdv A outer s H vs Q E hr h => ⟨_, (pss_cons (ps_expr (pe_rinit rfl T.g_RootError T.ri1_RootError T.ri2_RootError T.ri3_RootError T.ri4_RootError (pa_cons (pv 0) (pa_cons pe_str pa_nil)))) (pss_cons (ps_ost (pv 0) (pv 1)) (pss_one (ps_ost (pv 0) (pv 2))))), init2R h⟩
theorem ok_init_NoLetter (T : Top K mg t) : FnOk P w K mg base (L2.CX P w) 1 t.ai_NoLetter t.fi_NoLetter ["self", "letter"] (spInit K ["letter"]) := T.Fi_NoLetter.okX sci_NoLetter (spInit_len rfl) fun cdv A outer s H vs Q E hr h => ⟨_, (pss_cons (ps_expr (pe_rinit rfl T.g_RootError T.ri1_RootError T.ri2_RootError T.ri3_RootError T.ri4_RootError (pa_cons (pv 0) (pa_cons pe_str pa_nil)))) (pss_one (ps_ost (pv 0) (pv 1)))), init1R h⟩
theorem ok_init_NoPlace (T : Top K mg t) : FnOk P w K mg base (L2.CX P w) 1 t.ai_NoPlace t.fi_NoPlace ["self", "place"] (spInit K ["place"]) := T.Fi_NoPlace.okX sci_NoPlace (spInit_len rfl) fun cdv A outer s H vs Q E hr h => ⟨_, (pss_cons (ps_expr (pe_rinit rfl T.g_RootError T.ri1_RootError T.ri2_RootError T.ri3_RootError T.ri4_RootError (pa_cons (pv 0) (pa_cons pe_str pa_nil)))) (pss_one (ps_ost (pv 0) (pv 1)))), init1R h⟩
theorem ok_init_DividedByNought (T : Top K mg t) : FnOk P w K mg base (L2.CX P w) 1 t.ai_DividedByNought t.fi_DividedByNought ["self"] (spInit0 K) := T.Fi_DividedByNought.okX sci_DividedByNought (spInit0_len rfl) fun cdv A outer s H vs Q E hr h => ⟨_, pss_one ps_pass, by obtain ⟨a, C, rfl, _, _, k⟩ := h; exact k⟩
theorem ok_init_NoMark (T : Top K mg t) : FnOk P w K mg base (L2.CX P w) 1 t.ai_NoMark t.fi_NoMark ["self", "mark"] (spInit K ["mark"]) := T.Fi_NoMark.okX sci_NoMark (spInit_len rfl) fun cdv A outer s H vs Q E hr h => ⟨_, (pss_cons (ps_expr (pe_rinit rfl T.g_RootError T.ri1_RootError T.ri2_RootError T.ri3_RootError T.ri4_RootError (pa_cons (pv 0) (pa_cons pe_str pa_nil)))) (pss_one (ps_ost (pv 0) (pv 1)))), init1R h⟩
theorem ok_init_LackingLetter (T : Top K mg t) : FnOk P w K mg base (L2.CX P w) 1 t.ai_LackingLetter t.fi_LackingLetter ["self", "letter"] (spInit K ["letter"]) := T.Fi_LackingLetter.okX sci_LackingLetter (spInit_len rfl) fun cdv A outer s H vs Q E hr h => ⟨_, (pss_one (ps_ost (pv 0) (pv 1))), init1 h⟩
theorem ok_init_BadPoint (T : Top K mg t) : FnOk P w K mg base (L2.CX P w) 1 t.ai_BadPoint t.fi_BadPoint ["self", "index", "what"] (spInit K ["index", "what"]) := T.Fi_BadPoint.okX sci_BadPoint (spInit_len rfl) fun cdv A outer s H vs Q E hr h => ⟨_, (pss_cons (ps_ost (pv 0) (pv 1)) (pss_one (ps_ost (pv 0) (pv 2)))), init2 h⟩
theorem ok_init_BadProgram (T : Top K mg t) : FnOk P w K mg base (L2.CX P w) 1 t.ai_BadProgram t.fi_BadProgram ["self", "line", "what"] (spInit K ["line", "what"]) := T.Fi_BadProgram.okX sci_BadProgram (spInit_len rfl) fun cdv A outer s H vs Q E hr h => ⟨_, (pss_cons (ps_ost (pv 0) (pv 1)) (pss_one (ps_ost (pv 0) (pv 2)))), init2 h⟩
theorem ok_init_BadLot (T : Top K mg t) : FnOk P w K mg base (L2.CX P w) 1 t.ai_BadLot t.fi_BadLot ["self", "what"] (spInit K ["what"]) := T.Fi_BadLot.okX sci_BadLot (spInit_len rfl) fun cdv A outer s H vs Q E hr h => ⟨_, (pss_one (ps_ost (pv 0) (pv 1))), init1 h⟩
theorem ok_init_BadPrefix (T : Top K mg t) : FnOk P w K mg base (L2.CX P w) 1 t.ai_BadPrefix t.fi_BadPrefix ["self", "many"] (spInit K ["many"]) := T.Fi_BadPrefix.okX sci_BadPrefix (spInit_len rfl) fun cdv A outer s H vs Q E hr h => ⟨_, (pss_one (ps_ost (pv 0) (pv 1))), init1 h⟩
theorem ok_init_BadSaying (T : Top K mg t) : FnOk P w K mg base (L2.CX P w) 1 t.ai_BadSaying t.fi_BadSaying ["self", "what"] (spInit K ["what"]) := T.Fi_BadSaying.okX sci_BadSaying (spInit_len rfl) fun cdv A outer s H vs Q E hr h => ⟨_, (pss_one (ps_ost (pv 0) (pv 1))), init1 h⟩
theorem ok_init_HasFree (T : Top K mg t) : FnOk P w K mg base (L2.CX P w) 1 t.ai_HasFree t.fi_HasFree ["self"] (spInit0 K) := T.Fi_HasFree.okX sci_HasFree (spInit0_len rfl) fun cdv A outer s H vs Q E hr h => ⟨_, (pss_one (ps_expr (pe_rinit rfl T.g_RootError T.ri1_RootError T.ri2_RootError T.ri3_RootError T.ri4_RootError (pa_cons (pv 0) (pa_cons pe_str pa_nil))))), init0R h⟩
theorem ok_init_ZeroNote (T : Top K mg t) : FnOk P w K mg base (L2.CX P w) 1 t.ai_ZeroNote t.fi_ZeroNote ["self"] (spInit0 K) := T.Fi_ZeroNote.okX sci_ZeroNote (spInit0_len rfl) fun cdv A outer s H vs Q E hr h => ⟨_, (pss_one (ps_expr (pe_rinit rfl T.g_RootError T.ri1_RootError T.ri2_RootError T.ri3_RootError T.ri4_RootError (pa_cons (pv 0) (pa_cons pe_str pa_nil))))), init0R h⟩
theorem ok_init_NotMonic (T : Top K mg t) : FnOk P w K mg base (L2.CX P w) 1 t.ai_NotMonic t.fi_NotMonic ["self"] (spInit0 K) := T.Fi_NotMonic.okX sci_NotMonic (spInit0_len rfl) fun cdv A outer s H vs Q E hr h => ⟨_, (pss_one (ps_expr (pe_rinit rfl T.g_RootError T.ri1_RootError T.ri2_RootError T.ri3_RootError T.ri4_RootError (pa_cons (pv 0) (pa_cons pe_str pa_nil))))), init0R h⟩
theorem ok_init_OtherLetters (T : Top K mg t) : FnOk P w K mg base (L2.CX P w) 1 t.ai_OtherLetters t.fi_OtherLetters ["self"] (spInit0 K) := T.Fi_OtherLetters.okX sci_OtherLetters (spInit0_len rfl) fun cdv A outer s H vs Q E hr h => ⟨_, (pss_one (ps_expr (pe_rinit rfl T.g_RootError T.ri1_RootError T.ri2_RootError T.ri3_RootError T.ri4_RootError (pa_cons (pv 0) (pa_cons pe_str pa_nil))))), init0R h⟩
theorem ok_init_NoneMarked (T : Top K mg t) : FnOk P w K mg base (L2.CX P w) 1 t.ai_NoneMarked t.fi_NoneMarked ["self"] (spInit0 K) := T.Fi_NoneMarked.okX sci_NoneMarked (spInit0_len rfl) fun cdv A outer s H vs Q E hr h => ⟨_, (pss_one (ps_expr (pe_rinit rfl T.g_RootError T.ri1_RootError T.ri2_RootError T.ri3_RootError T.ri4_RootError (pa_cons (pv 0) (pa_cons pe_str pa_nil))))), init0R h⟩
theorem ok_init_NoPoint (T : Top K mg t) : FnOk P w K mg base (L2.CX P w) 1 t.ai_NoPoint t.fi_NoPoint ["self"] (spInit0 K) := T.Fi_NoPoint.okX sci_NoPoint (spInit0_len rfl) fun cdv A outer s H vs Q E hr h => ⟨_, (pss_one (ps_expr (pe_rinit rfl T.g_RootError T.ri1_RootError T.ri2_RootError T.ri3_RootError T.ri4_RootError (pa_cons (pv 0) (pa_cons pe_str pa_nil))))), init0R h⟩
theorem ok__law_start (T : Top K mg t) : FnOk P w K mg base (L2.CX P w) 1 t.a__law_start t.fd__law_start ["_law_script"] (spD K (cx t) [false] f__law_start) := def_ok T.F__law_start sc__law_start fun cdv A outer s H E R G0 W tk hr =>
    (ds_cons (ds_set (i := 1) rfl sc__law_start.nd dc_int)
    (ds_cons (ds_for (passes_of rfl) (di_list (dv 0)) (pg_name (i := 2) sc__law_start.nd rfl (by first | exact Or.inl rfl | exact Or.inr rfl)) (dtg_name rfl) (ds_one (ds_set (i := 1) rfl sc__law_start.nd (de_bin op_modN d_mod (de_callTy call_int1 d_int (da_cons (de_bin op_addAll d_add (de_bin op_mulAll d_mul (dv 1) dc_int) (de_callTy call_int1 d_int (da_cons (dv 2) da_nil) (hm := T.z_int))) da_nil) (hm := T.z_int)) dc_int))))
    (ds_one (ds_ret (de_lst (da_cons (de_lc rfl sc__law_start.nd (di_list (dv 0)) (blkOk_by (own := [("_law_cell", 2)]) (N := N__law_start) (sc := defScope s__law_start) (by decide +kernel)) (fun _ _ _ _ _ => (pg_name (i := 2) sc__law_start.nd rfl (by first | exact Or.inl rfl | exact Or.inr rfl))) (dtv_name rfl) (fun _ _ _ _ _ => dts_nil) (fun _ _ _ _ _ => (de_callTy call_int1 d_int (da_cons (dv 2) da_nil) (hm := T.z_int)))) (da_cons dc_int (da_cons dc_int (da_cons dc_int (da_cons (dv 1) da_nil))))))))))
theorem ok__law_mixed (T : Top K mg t) : FnOk P w K mg base (L2.CX P w) 1 t.a__law_mixed t.fd__law_mixed ["_law_number", "_law_turn"] (spD K (cx t) [false, false] f__law_mixed) := def_ok T.F__law_mixed sc__law_mixed fun cdv A outer s H E R G0 W tk hr =>
    (ds_cons (ds_set (i := 2) rfl sc__law_mixed.nd (de_bin op_modN d_mod (de_callTy call_int1 d_int (da_cons (de_bin op_addAll d_add (de_bin op_addAll d_add (de_bin op_mulAll d_mul (dv 0) dc_int) (de_bin op_mulAll d_mul (dv 1) dc_int)) dc_int) da_nil) (hm := T.z_int)) dc_int))
    (ds_cons (ds_set (i := 3) rfl sc__law_mixed.nd (de_bin op_modN d_mod (de_callTy call_int1 d_int (da_cons (de_bin op_addAll d_add (de_bin op_addAll d_add (de_bin op_mulAll d_mul (dv 2) (dv 2)) (de_bin op_mulAll d_mul (dv 1) dc_int)) dc_int) da_nil) (hm := T.z_int)) dc_int))
    (ds_one (ds_ret (de_bin op_fdivA d_div (de_bin op_modN d_mod (de_callTy call_int1 d_int (da_cons (de_bin op_addAll d_add (de_bin op_mulAll d_mul (dv 3) (dv 3)) (de_bin op_mulAll d_mul (dv 2) dc_int)) da_nil) (hm := T.z_int)) dc_int) dc_int)))))
theorem ok__law_draw (T : Top K mg t) : FnOk P w K mg base (L2.CX P w) 2 t.a__law_draw t.fd__law_draw ["_law_hand", "_law_many"] (spD K (cx t) [true, false] f__law_draw) := def_ok T.F__law_draw sc__law_draw fun cdv A outer s H E R G0 W tk hr =>
    (ds_cons (ds_setItem (de_bin op_addAll d_add (de_ix (dv 0) dc_int) dc_int) (dv 0) dc_int)
    (ds_cons (ds_if (dt_bool (dw_and (dt_cmp (op_eq2 hr.units) d_eq (de_ix (dv 0) dc_int) dc_int (nomark _)) (dw_and1 (dt_cmp op_lt2 d_ord (de_ix (dv 0) dc_int) (de_callB call_len d_len (da_cons (de_ix (dv 0) dc_int) da_nil) (hm := T.z_len)) (nomark _))))) (ds_cons (ds_set (i := 2) rfl sc__law_draw.nd (de_ix (de_ix (dv 0) dc_int) (de_ix (dv 0) dc_int)))
    (ds_cons (ds_setItem (de_bin op_addAll d_add (de_ix (dv 0) dc_int) dc_int) (dv 0) dc_int)
    (ds_cons (ds_if (dt_cmp op_lt2 d_ord (de_callB call_abs d_abs (da_cons (dv 2) da_nil) (hm := T.z_abs)) (de_bin op_pow d_pow dc_int dc_int) (nomark _)) (ds_one (ds_ret (de_bin op_modN d_mod (de_callTy call_int1 d_int (da_cons (de_call (ok__law_mixed T) (hr.mono (by decide)) tk T.g__law_mixed T.F__law_mixed.kp T.b__law_mixed (da_cons (dv 2) (da_cons (de_ix (dv 0) dc_int) da_nil))) da_nil) (hm := T.z_int)) (dv 1)))) ds_nil)
    (ds_one (ds_setItem (de_callB call_abs d_abs (da_cons (dv 2) da_nil) (hm := T.z_abs)) (dv 0) dc_int))))) ds_nil)
    (ds_cons (ds_if (dt_cmp op_gt2 d_ord (de_ix (dv 0) dc_int) dc_int (nomark _)) (ds_cons (ds_set (i := 3) rfl sc__law_draw.nd (de_bin op_modN d_mod (de_callTy call_int1 d_int (da_cons (de_ix (dv 0) dc_int) da_nil) (hm := T.z_int)) (dv 1)))
    (ds_cons (ds_setItem (de_bin op_fdivA d_div (de_ix (dv 0) dc_int) (dv 1)) (dv 0) dc_int)
    (ds_one (ds_ret (dv 3))))) ds_nil)
    (ds_one (ds_ret (de_bin op_modN d_mod (de_callTy call_int1 d_int (da_cons (de_call (ok__law_mixed T) (hr.mono (by decide)) tk T.g__law_mixed T.F__law_mixed.kp T.b__law_mixed (da_cons (de_ix (dv 0) dc_int) (da_cons (de_ix (dv 0) dc_int) da_nil))) da_nil) (hm := T.z_int)) (dv 1)))))))
theorem ok__law_word (T : Top K mg t) : FnOk P w K mg base (L2.CX P w) 3 t.a__law_word t.fd__law_word ["_law_hand"] (spD K (cx t) [true] f__law_word) := def_ok T.F__law_word sc__law_word fun cdv A outer s H E R G0 W tk hr =>
    (ds_cons (ds_set (i := 1) rfl sc__law_word.nd dc_str)
    (ds_cons (ds_for (passes_of rfl) (di_range1 (da_cons (de_bin op_addAll d_add dc_int (de_call (ok__law_draw T) (hr.mono (by decide)) tk T.g__law_draw T.F__law_draw.kp T.b__law_draw (da_cons (dv 0) (da_cons dc_int da_nil)))) da_nil) (hm := T.z_range)) (pg_name (i := 2) sc__law_word.nd rfl (by first | exact Or.inl rfl | exact Or.inr rfl)) (dtg_name rfl) (ds_one (ds_set (i := 1) rfl sc__law_word.nd (de_bin op_addAll d_add (dv 1) (de_ix dc_str (de_call (ok__law_draw T) (hr.mono (by decide)) tk T.g__law_draw T.F__law_draw.kp T.b__law_draw (da_cons (dv 0) (da_cons dc_int da_nil))))))))
    (ds_one (ds_ret (dv 1)))))
theorem ok__law_gcd (T : Top K mg t) : FnOk P w K mg base (L2.CX P w) 1 t.a__law_gcd t.fd__law_gcd ["_law_a", "_law_b"] (spD K (cx t) [false, false] f__law_gcd) := def_ok T.F__law_gcd sc__law_gcd fun cdv A outer s H E R G0 W tk hr =>
    (ds_cons (ds_set (i := 0) rfl sc__law_gcd.nd (de_callB call_abs d_abs (da_cons (dv 0) da_nil) (hm := T.z_abs)))
    (ds_cons (ds_set (i := 1) rfl sc__law_gcd.nd (de_callB call_abs d_abs (da_cons (dv 1) da_nil) (hm := T.z_abs)))
    (ds_cons (ds_for (passes_of rfl) (di_range1 (da_cons dc_int da_nil) (hm := T.z_range)) (pg_name (i := 2) sc__law_gcd.nd rfl (by first | exact Or.inl rfl | exact Or.inr rfl)) (dtg_name rfl) (ds_cons (ds_if (dt_cmp (op_eq2 hr.units) d_eq (dv 1) dc_int (nomark _)) (ds_one ds_break) ds_nil)
    (ds_one (ds_par (i := 0) (j := 1) rfl sc__law_gcd.nd (da_cons (dv 1) (da_cons (de_bin op_modN d_mod (de_callTy call_int1 d_int (da_cons (dv 0) da_nil) (hm := T.z_int)) (dv 1)) da_nil))))))
    (ds_one (ds_ret (dv 0))))))
theorem ok__law_ratio (T : Top K mg t) : FnOk P w K mg base (L2.CX P w) 2 t.a__law_ratio t.fd__law_ratio ["_law_top", "_law_bottom"] (spD K (cx t) [false, false] f__law_ratio) := def_ok T.F__law_ratio sc__law_ratio fun cdv A outer s H E R G0 W tk hr =>
    (ds_cons (ds_if (dt_cmp op_lt2 d_ord (dv 1) dc_int (nomark _)) (ds_cons (ds_set (i := 0) rfl sc__law_ratio.nd (de_un un_neg d_neg (dv 0)))
    (ds_one (ds_set (i := 1) rfl sc__law_ratio.nd (de_un un_neg d_neg (dv 1))))) ds_nil)
    (ds_cons (ds_set (i := 2) rfl sc__law_ratio.nd (de_call (ok__law_gcd T) (hr.mono (by decide)) tk T.g__law_gcd T.F__law_gcd.kp T.b__law_gcd (da_cons (dv 0) (da_cons (dv 1) da_nil))))
    (ds_one (ds_ret (de_tup (da_cons (de_bin op_fdivA d_div (dv 0) (dv 2)) (da_cons (de_bin op_fdivA d_div (dv 1) (dv 2)) da_nil)))))))
theorem ok__law_small (T : Top K mg t) : FnOk P w K mg base (L2.CX P w) 3 t.a__law_small t.fd__law_small ["_law_hand"] (spD K (cx t) [true] f__law_small) := def_ok T.F__law_small sc__law_small fun cdv A outer s H E R G0 W tk hr =>
    (ds_one (ds_ret (de_call (ok__law_ratio T) (hr.mono (by decide)) tk T.g__law_ratio T.F__law_ratio.kp T.b__law_ratio (da_cons (de_bin op_sub d_sub (de_call (ok__law_draw T) (hr.mono (by decide)) tk T.g__law_draw T.F__law_draw.kp T.b__law_draw (da_cons (dv 0) (da_cons dc_int da_nil))) dc_int) (da_cons (de_bin op_addAll d_add dc_int (de_call (ok__law_draw T) (hr.mono (by decide)) tk T.g__law_draw T.F__law_draw.kp T.b__law_draw (da_cons (dv 0) (da_cons dc_int da_nil)))) da_nil)))))
theorem ok__law_first (T : Top K mg t) : FnOk P w K mg base (L2.CX P w) 3 t.a__law_first t.fd__law_first ["_law_at", "_law_to", "_law_word_here", "_law_ratio_here"] (spD K (cx t) [false, false, false, false] f__law_first) := def_ok T.F__law_first sc__law_first fun cdv A outer s H E R G0 W tk hr =>
    (ds_cons (ds_asg (de_tup (da_cons (de_mkV T.ox_BadRatio T.i_BadRatio T.ti_BadRatio T.no_BadRatio (ok_init_BadRatio T) (hr.mono (by decide)) T.bi_BadRatio T.g_BadRatio T.ec_BadRatio (by decide) (da_cons (dv 2) da_nil)) (da_cons (de_mkV T.ox_Pole T.i_Pole T.ti_Pole T.no_Pole (ok_init_Pole T) (hr.mono (by decide)) T.bi_Pole T.g_Pole T.ec_Pole (by decide) (da_cons (dv 3) da_nil)) (da_cons (de_mkV T.ox_BadElement T.i_BadElement T.ti_BadElement T.no_BadElement (ok_init_BadElement T) (hr.mono (by decide)) T.bi_BadElement T.g_BadElement T.ec_BadElement (by decide) (da_cons (dv 0) da_nil)) (da_cons (de_mkV T.ox_BadText T.i_BadText T.ti_BadText T.no_BadText (ok_init_BadText T) (hr.mono (by decide)) T.bi_BadText T.g_BadText T.ec_BadText (by decide) (da_cons (dv 0) (da_cons (dv 2) da_nil))) (da_cons (de_mkV T.ox_BadTower T.i_BadTower T.ti_BadTower T.no_BadTower (ok_init_BadTower T) (hr.mono (by decide)) T.bi_BadTower T.g_BadTower T.ec_BadTower (by decide) (da_cons (dv 2) (da_cons (dv 1) da_nil))) da_nil)))))) (pg_tup rfl (pgs_cons (pg_name (i := 4) sc__law_first.nd rfl (by first | exact Or.inl rfl | exact Or.inr rfl)) (pgs_cons (pg_name (i := 5) sc__law_first.nd rfl (by first | exact Or.inl rfl | exact Or.inr rfl)) (pgs_cons (pg_name (i := 6) sc__law_first.nd rfl (by first | exact Or.inl rfl | exact Or.inr rfl)) (pgs_cons (pg_name (i := 7) sc__law_first.nd rfl (by first | exact Or.inl rfl | exact Or.inr rfl)) (pgs_cons (pg_name (i := 8) sc__law_first.nd rfl (by first | exact Or.inl rfl | exact Or.inr rfl)) pgs_nil)))))) (dtg_tup (dtg_cons (dtg_name rfl) (dtg_cons (dtg_name rfl) (dtg_cons (dtg_name rfl) (dtg_cons (dtg_name rfl) (dtg_cons (dtg_name rfl) dtg_nil)))))))
    (ds_cons (ds_asg (de_tup (da_cons (de_mkV T.ox_NoPlace T.i_NoPlace T.ti_NoPlace T.no_NoPlace (ok_init_NoPlace T) (hr.mono (by decide)) T.bi_NoPlace T.g_NoPlace T.ec_NoPlace (by decide) (da_cons (dv 0) da_nil)) (da_cons (de_mkV T.ox_NoLetter T.i_NoLetter T.ti_NoLetter T.no_NoLetter (ok_init_NoLetter T) (hr.mono (by decide)) T.bi_NoLetter T.g_NoLetter T.ec_NoLetter (by decide) (da_cons (dv 2) da_nil)) (da_cons (de_mkV T.ox_BadSystem T.i_BadSystem T.ti_BadSystem T.no_BadSystem (ok_init_BadSystem T) (hr.mono (by decide)) T.bi_BadSystem T.g_BadSystem T.ec_BadSystem (by decide) (da_cons (dv 2) (da_cons (dv 0) da_nil))) (da_cons (de_mkV T.ox_TooMany T.i_TooMany T.ti_TooMany T.no_TooMany (ok_init_TooMany T) (hr.mono (by decide)) T.bi_TooMany T.g_TooMany T.ec_TooMany (by decide) (da_cons (dv 1) da_nil)) da_nil))))) (pg_tup rfl (pgs_cons (pg_name (i := 9) sc__law_first.nd rfl (by first | exact Or.inl rfl | exact Or.inr rfl)) (pgs_cons (pg_name (i := 10) sc__law_first.nd rfl (by first | exact Or.inl rfl | exact Or.inr rfl)) (pgs_cons (pg_name (i := 11) sc__law_first.nd rfl (by first | exact Or.inl rfl | exact Or.inr rfl)) (pgs_cons (pg_name (i := 12) sc__law_first.nd rfl (by first | exact Or.inl rfl | exact Or.inr rfl)) pgs_nil))))) (dtg_tup (dtg_cons (dtg_name rfl) (dtg_cons (dtg_name rfl) (dtg_cons (dtg_name rfl) (dtg_cons (dtg_name rfl) dtg_nil))))))
    (ds_cons (ds_set (i := 13) rfl sc__law_first.nd (de_lst (da_cons (de_tup (da_cons (dv 4) (da_cons (de_lst (da_cons (de_exF (T.xo_what) (dv 4)) da_nil)) (da_cons (de_lst (da_cons (dv 2) da_nil)) da_nil)))) (da_cons (de_tup (da_cons (de_mkV0 T.ox_DividedByNought T.i_DividedByNought T.ti_DividedByNought (ok_init_DividedByNought T) (hr.mono (by decide)) T.bi_DividedByNought T.g_DividedByNought T.ec_DividedByNought) (da_cons (de_lst da_nil) (da_cons (de_lst da_nil) da_nil)))) (da_cons (de_tup (da_cons (dv 5) (da_cons (de_lst (da_cons (de_exF (T.xo_at) (dv 5)) da_nil)) (da_cons (de_lst (da_cons (dv 3) da_nil)) da_nil)))) (da_cons (de_tup (da_cons (dv 6) (da_cons (de_lst (da_cons (de_exF (T.xo_index) (dv 6)) da_nil)) (da_cons (de_lst (da_cons (dv 0) da_nil)) da_nil)))) da_nil))))))
    (ds_cons (ds_set (i := 13) rfl sc__law_first.nd (de_bin op_addAll d_add (dv 13) (de_lst (da_cons (de_tup (da_cons (dv 7) (da_cons (de_lst (da_cons (de_exF (T.xo_line) (dv 7)) (da_cons (de_exF (T.xo_what) (dv 7)) da_nil))) (da_cons (de_lst (da_cons (dv 0) (da_cons (dv 2) da_nil))) da_nil)))) (da_cons (de_tup (da_cons (dv 8) (da_cons (de_lst (da_cons (de_exF (T.xo_what) (dv 8)) (da_cons (de_exF (T.xo_place) (dv 8)) da_nil))) (da_cons (de_lst (da_cons (dv 2) (da_cons (dv 1) da_nil))) da_nil)))) (da_cons (de_tup (da_cons (dv 9) (da_cons (de_lst (da_cons (de_exF (T.xo_place) (dv 9)) da_nil)) (da_cons (de_lst (da_cons (dv 0) da_nil)) da_nil)))) da_nil))))))
    (ds_one (ds_ret (de_bin op_addAll d_add (dv 13) (de_lst (da_cons (de_tup (da_cons (dv 10) (da_cons (de_lst (da_cons (de_exF (T.xo_letter) (dv 10)) da_nil)) (da_cons (de_lst (da_cons (dv 2) da_nil)) da_nil)))) (da_cons (de_tup (da_cons (dv 11) (da_cons (de_lst (da_cons (de_exF (T.xo_what) (dv 11)) (da_cons (de_exF (T.xo_place) (dv 11)) da_nil))) (da_cons (de_lst (da_cons (dv 2) (da_cons (dv 0) da_nil))) da_nil)))) (da_cons (de_tup (da_cons (dv 12) (da_cons (de_lst (da_cons (de_exF (T.xo_most) (dv 12)) da_nil)) (da_cons (de_lst (da_cons (dv 1) da_nil)) da_nil)))) da_nil)))))))))))
theorem ok__law_second (T : Top K mg t) : FnOk P w K mg base (L2.CX P w) 3 t.a__law_second t.fd__law_second ["_law_at", "_law_to", "_law_word_here", "_law_ratio_here"] (spD K (cx t) [false, false, false, false] f__law_second) := def_ok T.F__law_second sc__law_second fun cdv A outer s H E R G0 W tk hr =>
    (ds_cons (ds_asg (de_tup (da_cons (de_mkV T.ox_BadProgram T.i_BadProgram T.ti_BadProgram T.no_BadProgram (ok_init_BadProgram T) (hr.mono (by decide)) T.bi_BadProgram T.g_BadProgram T.ec_BadProgram (by decide) (da_cons (dv 0) (da_cons (dv 2) da_nil))) (da_cons (de_mkV T.ox_BadPoint T.i_BadPoint T.ti_BadPoint T.no_BadPoint (ok_init_BadPoint T) (hr.mono (by decide)) T.bi_BadPoint T.g_BadPoint T.ec_BadPoint (by decide) (da_cons (dv 1) (da_cons (dv 2) da_nil))) (da_cons (de_mkV T.ox_LackingLetter T.i_LackingLetter T.ti_LackingLetter T.no_LackingLetter (ok_init_LackingLetter T) (hr.mono (by decide)) T.bi_LackingLetter T.g_LackingLetter T.ec_LackingLetter (by decide) (da_cons (dv 2) da_nil)) (da_cons (de_mkV T.ox_NoMark T.i_NoMark T.ti_NoMark T.no_NoMark (ok_init_NoMark T) (hr.mono (by decide)) T.bi_NoMark T.g_NoMark T.ec_NoMark (by decide) (da_cons (dv 2) da_nil)) da_nil))))) (pg_tup rfl (pgs_cons (pg_name (i := 4) sc__law_second.nd rfl (by first | exact Or.inl rfl | exact Or.inr rfl)) (pgs_cons (pg_name (i := 5) sc__law_second.nd rfl (by first | exact Or.inl rfl | exact Or.inr rfl)) (pgs_cons (pg_name (i := 6) sc__law_second.nd rfl (by first | exact Or.inl rfl | exact Or.inr rfl)) (pgs_cons (pg_name (i := 7) sc__law_second.nd rfl (by first | exact Or.inl rfl | exact Or.inr rfl)) pgs_nil))))) (dtg_tup (dtg_cons (dtg_name rfl) (dtg_cons (dtg_name rfl) (dtg_cons (dtg_name rfl) (dtg_cons (dtg_name rfl) dtg_nil))))))
    (ds_cons (ds_par3 (i := 8) (j := 9) (l := 10) rfl sc__law_second.nd (da_cons (de_mkV T.ox_BadSaying T.i_BadSaying T.ti_BadSaying T.no_BadSaying (ok_init_BadSaying T) (hr.mono (by decide)) T.bi_BadSaying T.g_BadSaying T.ec_BadSaying (by decide) (da_cons (dv 2) da_nil)) (da_cons (de_mkV T.ox_BadPrefix T.i_BadPrefix T.ti_BadPrefix T.no_BadPrefix (ok_init_BadPrefix T) (hr.mono (by decide)) T.bi_BadPrefix T.g_BadPrefix T.ec_BadPrefix (by decide) (da_cons (dv 0) da_nil)) (da_cons (de_mkV T.ox_BadLot T.i_BadLot T.ti_BadLot T.no_BadLot (ok_init_BadLot T) (hr.mono (by decide)) T.bi_BadLot T.g_BadLot T.ec_BadLot (by decide) (da_cons (dv 2) da_nil)) da_nil))))
    (ds_cons (ds_set (i := 11) rfl sc__law_second.nd (de_lst (da_cons (de_tup (da_cons (de_mkV0 T.ox_OtherLetters T.i_OtherLetters T.ti_OtherLetters (ok_init_OtherLetters T) (hr.mono (by decide)) T.bi_OtherLetters T.g_OtherLetters T.ec_OtherLetters) (da_cons (de_lst da_nil) (da_cons (de_lst da_nil) da_nil)))) (da_cons (de_tup (da_cons (de_mkV0 T.ox_NotMonic T.i_NotMonic T.ti_NotMonic (ok_init_NotMonic T) (hr.mono (by decide)) T.bi_NotMonic T.g_NotMonic T.ec_NotMonic) (da_cons (de_lst da_nil) (da_cons (de_lst da_nil) da_nil)))) (da_cons (de_tup (da_cons (de_mkV0 T.ox_ZeroNote T.i_ZeroNote T.ti_ZeroNote (ok_init_ZeroNote T) (hr.mono (by decide)) T.bi_ZeroNote T.g_ZeroNote T.ec_ZeroNote) (da_cons (de_lst da_nil) (da_cons (de_lst da_nil) da_nil)))) (da_cons (de_tup (da_cons (de_mkV0 T.ox_HasFree T.i_HasFree T.ti_HasFree (ok_init_HasFree T) (hr.mono (by decide)) T.bi_HasFree T.g_HasFree T.ec_HasFree) (da_cons (de_lst da_nil) (da_cons (de_lst da_nil) da_nil)))) da_nil))))))
    (ds_cons (ds_set (i := 11) rfl sc__law_second.nd (de_bin op_addAll d_add (dv 11) (de_lst (da_cons (de_tup (da_cons (dv 4) (da_cons (de_lst (da_cons (de_exF (T.xo_line) (dv 4)) (da_cons (de_exF (T.xo_what) (dv 4)) da_nil))) (da_cons (de_lst (da_cons (dv 0) (da_cons (dv 2) da_nil))) da_nil)))) (da_cons (de_tup (da_cons (dv 5) (da_cons (de_lst (da_cons (de_exF (T.xo_index) (dv 5)) (da_cons (de_exF (T.xo_what) (dv 5)) da_nil))) (da_cons (de_lst (da_cons (dv 1) (da_cons (dv 2) da_nil))) da_nil)))) (da_cons (de_tup (da_cons (dv 6) (da_cons (de_lst (da_cons (de_exF (T.xo_letter) (dv 6)) da_nil)) (da_cons (de_lst (da_cons (dv 2) da_nil)) da_nil)))) da_nil))))))
    (ds_cons (ds_set (i := 11) rfl sc__law_second.nd (de_bin op_addAll d_add (dv 11) (de_lst (da_cons (de_tup (da_cons (de_mkV0 T.ox_NoPoint T.i_NoPoint T.ti_NoPoint (ok_init_NoPoint T) (hr.mono (by decide)) T.bi_NoPoint T.g_NoPoint T.ec_NoPoint) (da_cons (de_lst da_nil) (da_cons (de_lst da_nil) da_nil)))) (da_cons (de_tup (da_cons (de_mkN PySem.F.excBase_ValueError T.xn_NotOne T.g_NotOne T.xk_NotOne T.ec_NotOne) (da_cons (de_lst da_nil) (da_cons (de_lst da_nil) da_nil)))) (da_cons (de_tup (da_cons (dv 7) (da_cons (de_lst (da_cons (de_exF (T.xo_mark) (dv 7)) da_nil)) (da_cons (de_lst (da_cons (dv 2) da_nil)) da_nil)))) (da_cons (de_tup (da_cons (de_mkV0 T.ox_NoneMarked T.i_NoneMarked T.ti_NoneMarked (ok_init_NoneMarked T) (hr.mono (by decide)) T.bi_NoneMarked T.g_NoneMarked T.ec_NoneMarked) (da_cons (de_lst da_nil) (da_cons (de_lst da_nil) da_nil)))) da_nil)))))))
    (ds_one (ds_ret (de_bin op_addAll d_add (dv 11) (de_lst (da_cons (de_tup (da_cons (dv 8) (da_cons (de_lst (da_cons (de_exF (T.xo_what) (dv 8)) da_nil)) (da_cons (de_lst (da_cons (dv 2) da_nil)) da_nil)))) (da_cons (de_tup (da_cons (dv 9) (da_cons (de_lst (da_cons (de_exF (T.xo_many) (dv 9)) da_nil)) (da_cons (de_lst (da_cons (dv 0) da_nil)) da_nil)))) (da_cons (de_tup (da_cons (dv 10) (da_cons (de_lst (da_cons (de_exF (T.xo_what) (dv 10)) da_nil)) (da_cons (de_lst (da_cons (dv 2) da_nil)) da_nil)))) (da_cons (de_tup (da_cons (de_mkN PySem.F.excBase_ValueError T.xn_NoFree T.g_NoFree T.xk_NoFree T.ec_NoFree) (da_cons (de_lst da_nil) (da_cons (de_lst da_nil) da_nil)))) da_nil)))))))))))))
theorem ok__law_classes (T : Top K mg t) : FnOk P w K mg base (L2.CX P w) 1 t.a__law_classes t.fd__law_classes ["_law_e"] (spD K (cx t) [false] f__law_classes) := def_ok T.F__law_classes sc__law_classes fun cdv A outer s H E R G0 W tk hr =>
    (ds_cons (ds_set (i := 1) rfl sc__law_classes.nd (de_lst (da_cons (de_isV T.isV_BadRatio (pe_glob (v := V.ref t.c_BadRatio) rfl T.g_BadRatio rfl) (fun _ r => r) (dv 0) (hm := T.z_isinstance)) (da_cons (de_isV T.isV_DividedByNought (pe_glob (v := V.ref t.c_DividedByNought) rfl T.g_DividedByNought rfl) (fun _ r => r) (dv 0) (hm := T.z_isinstance)) (da_cons (de_isV T.isV_Pole (pe_glob (v := V.ref t.c_Pole) rfl T.g_Pole rfl) (fun _ r => r) (dv 0) (hm := T.z_isinstance)) (da_cons (de_isV T.isV_BadElement (pe_glob (v := V.ref t.c_BadElement) rfl T.g_BadElement rfl) (fun _ r => r) (dv 0) (hm := T.z_isinstance)) da_nil))))))
    (ds_cons (ds_set (i := 1) rfl sc__law_classes.nd (de_bin op_addAll d_add (dv 1) (de_lst (da_cons (de_isV T.isV_BadText (pe_glob (v := V.ref t.c_BadText) rfl T.g_BadText rfl) (fun _ r => r) (dv 0) (hm := T.z_isinstance)) (da_cons (de_isV T.isV_BadTower (pe_glob (v := V.ref t.c_BadTower) rfl T.g_BadTower rfl) (fun _ r => r) (dv 0) (hm := T.z_isinstance)) (da_cons (de_isV T.isV_NoPlace (pe_glob (v := V.ref t.c_NoPlace) rfl T.g_NoPlace rfl) (fun _ r => r) (dv 0) (hm := T.z_isinstance)) (da_cons (de_isV T.isV_NoLetter (pe_glob (v := V.ref t.c_NoLetter) rfl T.g_NoLetter rfl) (fun _ r => r) (dv 0) (hm := T.z_isinstance)) da_nil)))))))
    (ds_cons (ds_set (i := 1) rfl sc__law_classes.nd (de_bin op_addAll d_add (dv 1) (de_lst (da_cons (de_isV T.isV_BadSystem (pe_glob (v := V.ref t.c_BadSystem) rfl T.g_BadSystem rfl) (fun _ r => r) (dv 0) (hm := T.z_isinstance)) (da_cons (de_isV T.isV_TooMany (pe_glob (v := V.ref t.c_TooMany) rfl T.g_TooMany rfl) (fun _ r => r) (dv 0) (hm := T.z_isinstance)) (da_cons (de_isV T.isV_OtherLetters (pe_glob (v := V.ref t.c_OtherLetters) rfl T.g_OtherLetters rfl) (fun _ r => r) (dv 0) (hm := T.z_isinstance)) (da_cons (de_isV T.isV_NotMonic (pe_glob (v := V.ref t.c_NotMonic) rfl T.g_NotMonic rfl) (fun _ r => r) (dv 0) (hm := T.z_isinstance)) da_nil)))))))
    (ds_cons (ds_set (i := 1) rfl sc__law_classes.nd (de_bin op_addAll d_add (dv 1) (de_lst (da_cons (de_isV T.isV_ZeroNote (pe_glob (v := V.ref t.c_ZeroNote) rfl T.g_ZeroNote rfl) (fun _ r => r) (dv 0) (hm := T.z_isinstance)) (da_cons (de_isV T.isV_HasFree (pe_glob (v := V.ref t.c_HasFree) rfl T.g_HasFree rfl) (fun _ r => r) (dv 0) (hm := T.z_isinstance)) (da_cons (de_isV T.isV_BadProgram (pe_glob (v := V.ref t.c_BadProgram) rfl T.g_BadProgram rfl) (fun _ r => r) (dv 0) (hm := T.z_isinstance)) (da_cons (de_isV T.isV_BadPoint (pe_glob (v := V.ref t.c_BadPoint) rfl T.g_BadPoint rfl) (fun _ r => r) (dv 0) (hm := T.z_isinstance)) da_nil)))))))
    (ds_cons (ds_set (i := 1) rfl sc__law_classes.nd (de_bin op_addAll d_add (dv 1) (de_lst (da_cons (de_isV T.isV_LackingLetter (pe_glob (v := V.ref t.c_LackingLetter) rfl T.g_LackingLetter rfl) (fun _ r => r) (dv 0) (hm := T.z_isinstance)) (da_cons (de_isV T.isV_NoPoint (pe_glob (v := V.ref t.c_NoPoint) rfl T.g_NoPoint rfl) (fun _ r => r) (dv 0) (hm := T.z_isinstance)) (da_cons (de_isV T.isV_NotOne (pe_glob (v := V.ref t.c_NotOne) rfl T.g_NotOne rfl) (fun _ r => r) (dv 0) (hm := T.z_isinstance)) (da_cons (de_isV T.isV_NoMark (pe_glob (v := V.ref t.c_NoMark) rfl T.g_NoMark rfl) (fun _ r => r) (dv 0) (hm := T.z_isinstance)) da_nil)))))))
    (ds_cons (ds_set (i := 1) rfl sc__law_classes.nd (de_bin op_addAll d_add (dv 1) (de_lst (da_cons (de_isV T.isV_NoneMarked (pe_glob (v := V.ref t.c_NoneMarked) rfl T.g_NoneMarked rfl) (fun _ r => r) (dv 0) (hm := T.z_isinstance)) (da_cons (de_isV T.isV_BadSaying (pe_glob (v := V.ref t.c_BadSaying) rfl T.g_BadSaying rfl) (fun _ r => r) (dv 0) (hm := T.z_isinstance)) (da_cons (de_isV T.isV_BadPrefix (pe_glob (v := V.ref t.c_BadPrefix) rfl T.g_BadPrefix rfl) (fun _ r => r) (dv 0) (hm := T.z_isinstance)) (da_cons (de_isV T.isV_BadLot (pe_glob (v := V.ref t.c_BadLot) rfl T.g_BadLot rfl) (fun _ r => r) (dv 0) (hm := T.z_isinstance)) da_nil)))))))
    (ds_one (ds_ret (de_bin op_addAll d_add (dv 1) (de_lst (da_cons (de_isV T.isV_NoFree (pe_glob (v := V.ref t.c_NoFree) rfl T.g_NoFree rfl) (fun _ r => r) (dv 0) (hm := T.z_isinstance)) da_nil)))))))))))
theorem ok__law_raised (T : Top K mg t) : FnOk P w K mg base (L2.CX P w) 3 t.a__law_raised t.fd__law_raised ["_law_at", "_law_to", "_law_word_here"] (spD K (cx t) [false, false, false] f__law_raised) := def_ok T.F__law_raised sc__law_raised fun cdv A outer s H E R G0 W tk hr =>
    (ds_cons (ds_tryAs (i := 3) (T.isA_RootError) rfl sc__law_raised.nd ⟨rfl, by decide, Or.inl T.g_RootError⟩ tk (fun W1 pn xe tk1 po1 => (ds_one (ds_raise rfl tk1 T.ox_BadTower T.i_BadTower T.ti_BadTower T.no_BadTower (ok_init_BadTower T) (hr.mono (by decide)) T.bi_BadTower T.g_BadTower rfl (by decide) (da_cons (dv 2) (da_cons (dv 0) da_nil))))) (fun a oe cls d pn hz hf => (ds_one (ds_if (dt_bool (dw_or (dt_not (dt_tru (de_isS (i := 3) T.isS_BadTower hz hf (pe_glob (v := V.ref t.c_BadTower) rfl T.g_BadTower rfl) (fun _ r => r) (hm := T.z_isinstance)))) (dw_or1 (dt_tru (de_isS (i := 3) T.isS_BadSystem hz hf (pe_glob (v := V.ref t.c_BadSystem) rfl T.g_BadSystem rfl) (fun _ r => r) (hm := T.z_isinstance)))))) (ds_one (ds_ret dc_bl)) ds_nil))))
    (ds_cons (ds_tryMix sc__law_raised.nd tk (fun W1 pn xe tk1 po1 => (ds_one (ds_raiseK rfl tk1 T.ox_BadText T.i_BadText T.ti_BadText T.no_BadText (ok_init_BadText T) (hr.mono (by decide)) T.rk_BadText_line_what (fun r => prr_BadText_line_what r) T.g_BadText rfl (dk_cons (dv 0) (dk_cons (dv 2) dk_nil))))) (.bare (T.isA_NoPoint) ⟨rfl, by decide, Or.inl T.g_NoPoint⟩ (fun a oe cls d pn hz hf => (ds_one (ds_ret dc_bl))) (.named (T.isA_BadText) ⟨rfl, by decide, Or.inl T.g_BadText⟩ rfl rfl (fun a oe cls d pn hz hf => (ds_one (ds_if (dt_bool (dw_or (dt_cmp (op_ne2 (show _ from hr.units)) d_ne (de_xf T.xf_BadText (T.no_BadText _ (by decide +kernel)) hz hf rfl) (dv 0) (nomark _)) (dw_or1 (dt_cmp (op_ne2 (show _ from hr.units)) d_ne (de_xf T.xf_BadText (T.no_BadText _ (by decide +kernel)) hz hf rfl) (dv 2) (nomark _))))) (ds_one (ds_ret dc_bl)) ds_nil))) .nil)))
    (ds_one (ds_tryMix sc__law_raised.nd tk (fun W1 pn xe tk1 po1 => (ds_one (ds_raiseK rfl tk1 T.ox_BadSystem T.i_BadSystem T.ti_BadSystem T.no_BadSystem (ok_init_BadSystem T) (hr.mono (by decide)) T.rk_BadSystem_place_what (fun r => prr_BadSystem_place_what r) T.g_BadSystem rfl (dk_cons (dv 1) (dk_cons (dv 2) dk_nil))))) (.bare (T.isA_BadTower) ⟨rfl, by decide, Or.inl T.g_BadTower⟩ (fun a oe cls d pn hz hf => (ds_one (ds_ret dc_bl))) (.named (T.isA_BadSystem) ⟨rfl, by decide, Or.inl T.g_BadSystem⟩ rfl rfl (fun a oe cls d pn hz hf => (ds_one (ds_ret (de_and (de_cmp (op_eq2 (show _ from hr.units)) d_eq (de_xf T.xf_BadSystem (T.no_BadSystem _ (by decide +kernel)) hz hf rfl) (dv 2) (nomark _)) (de_one (de_cmp (op_eq2 (show _ from hr.units)) d_eq (de_xf T.xf_BadSystem (T.no_BadSystem _ (by decide +kernel)) hz hf rfl) (dv 1) (nomark _))))))) .nil))))))
theorem ok_law (T : Top K mg t) : FnOk P w K mg base (L2.CX P w) 4 t.a_law t.fd_law ["_law_script"] (spD K (cx t) [false] f_law) := def_ok T.F_law sc_law fun cdv A outer s H E R G0 W tk hr =>
    (ds_cons (ds_set (i := 1) rfl sc_law.nd (de_call (ok__law_start T) (hr.mono (by decide)) tk T.g__law_start T.F__law_start.kp T.b__law_start (da_cons (dv 0) da_nil)))
    (ds_cons (ds_set (i := 2) rfl sc_law.nd (de_call (ok__law_draw T) (hr.mono (by decide)) tk T.g__law_draw T.F__law_draw.kp T.b__law_draw (da_cons (dv 1) (da_cons dc_int da_nil))))
    (ds_cons (ds_if (dt_cmp op_gt2 d_ord (de_callB call_len d_len (da_cons (dv 0) da_nil) (hm := T.z_len)) dc_int (nomark _)) (ds_one (ds_set (i := 2) rfl sc_law.nd (de_bin op_mulAll d_mul (de_bin op_modN d_mod (de_callTy call_int1 d_int (da_cons (de_callB call_abs d_abs (da_cons (de_callTy call_int1 d_int (da_cons (de_ix (dv 0) dc_int) da_nil) (hm := T.z_int)) da_nil) (hm := T.z_abs)) da_nil) (hm := T.z_int)) (de_bin op_mulAll d_mul (de_bin op_mulAll d_mul (de_bin op_mulAll d_mul (de_bin op_pow d_pow dc_int dc_int) (de_bin op_pow d_pow dc_int dc_int)) (de_bin op_pow d_pow dc_int dc_int)) (de_bin op_pow d_pow dc_int dc_int))) (de_if (dt_cmp op_lt2 d_ord (de_callTy call_int1 d_int (da_cons (de_ix (dv 0) dc_int) da_nil) (hm := T.z_int)) dc_int (nomark _)) (de_un un_neg d_neg dc_int) dc_int)))) ds_nil)
    (ds_cons (ds_set (i := 3) rfl sc_law.nd (de_bin op_sub d_sub (de_call (ok__law_draw T) (hr.mono (by decide)) tk T.g__law_draw T.F__law_draw.kp T.b__law_draw (da_cons (dv 1) (da_cons (de_bin op_pow d_pow dc_int dc_int) da_nil))) (de_bin op_pow d_pow dc_int dc_int)))
    (ds_cons (ds_set (i := 4) rfl sc_law.nd (de_call (ok__law_word T) (hr.mono (by decide)) tk T.g__law_word T.F__law_word.kp T.b__law_word (da_cons (dv 1) da_nil)))
    (ds_cons (ds_set (i := 5) rfl sc_law.nd (de_call (ok__law_small T) (hr.mono (by decide)) tk T.g__law_small T.F__law_small.kp T.b__law_small (da_cons (dv 1) da_nil)))
    (ds_cons (ds_set (i := 6) rfl sc_law.nd (de_bin op_addAll d_add (de_call (ok__law_first T) (hr.mono (by decide)) tk T.g__law_first T.F__law_first.kp T.b__law_first (da_cons (dv 2) (da_cons (dv 3) (da_cons (dv 4) (da_cons (dv 5) da_nil))))) (de_call (ok__law_second T) (hr.mono (by decide)) tk T.g__law_second T.F__law_second.kp T.b__law_second (da_cons (dv 2) (da_cons (dv 3) (da_cons (dv 4) (da_cons (dv 5) da_nil)))))))
    (ds_cons (ds_for (passes_of rfl) (di_range1 (da_cons (de_callB call_len d_len (da_cons (dv 6) da_nil) (hm := T.z_len)) da_nil) (hm := T.z_range)) (pg_name (i := 7) sc_law.nd rfl (by first | exact Or.inl rfl | exact Or.inr rfl)) (dtg_name rfl) (ds_cons (ds_set (i := 8) rfl sc_law.nd (de_ix (de_ix (dv 6) (dv 7)) dc_int))
    (ds_cons (ds_if (dt_bool (dw_or (dt_cmp (op_ne2 hr.units) d_ne (de_ix (de_ix (dv 6) (dv 7)) dc_int) (de_ix (de_ix (dv 6) (dv 7)) dc_int) (nomark _)) (dw_or (dt_not (dt_tru (de_isV T.isV_RootError (pe_glob (v := V.ref t.c_RootError) rfl T.g_RootError rfl) (fun _ r => r) (dv 8) (hm := T.z_isinstance)))) (dw_or1 (dt_not (dt_tru (de_isV T.isV_ValueError (pe_bltn rfl T.z_ValueError (by decide +kernel) (v := V.ty "ValueError") rfl) (fun _ r => r) (dv 8) (hm := T.z_isinstance)))))))) (ds_one (ds_ret dc_bl)) ds_nil)
    (ds_cons (ds_if (dt_bool (dw_or (dt_tru (de_isV T.isV_LookupError (pe_bltn rfl T.z_LookupError (by decide +kernel) (v := V.ty "LookupError") rfl) (fun _ r => r) (dv 8) (hm := T.z_isinstance))) (dw_or1 (dt_tru (de_isV T.isV_ArithmeticError (pe_bltn rfl T.z_ArithmeticError (by decide +kernel) (v := V.ty "ArithmeticError") rfl) (fun _ r => r) (dv 8) (hm := T.z_isinstance)))))) (ds_one (ds_ret dc_bl)) ds_nil)
    (ds_one (ds_if (dt_cmp (op_ne2 hr.units) d_ne (de_call (ok__law_classes T) (hr.mono (by decide)) tk T.g__law_classes T.F__law_classes.kp T.b__law_classes (da_cons (dv 8) da_nil)) (de_lc rfl sc_law.nd (di_range1 (da_cons (de_callB call_len d_len (da_cons (dv 6) da_nil) (hm := T.z_len)) da_nil) (hm := T.z_range)) (blkOk_by (own := [("_law_step", 10)]) (N := N_law) (sc := defScope s_law) (by decide +kernel)) (fun _ _ _ _ _ => (pg_name (i := 10) sc_law.nd rfl (by first | exact Or.inl rfl | exact Or.inr rfl))) (dtv_name rfl) (fun _ _ _ _ _ => dts_nil) (fun _ _ _ _ _ => (de_cmp (op_eq2 hr.units) d_eq (dv 7) (dv 10) (nomark _)))) (nomark _)) (ds_one (ds_ret dc_bl)) ds_nil))))))
    (ds_cons (ds_set (i := 9) rfl sc_law.nd (de_mkN PySem.F.excBase_ValueError T.xn_RootError T.g_RootError T.xk_RootError T.ec_RootError))
    (ds_cons (ds_if (dt_bool (dw_or (dt_not (dt_tru (de_isV T.isV_ValueError (pe_bltn rfl T.z_ValueError (by decide +kernel) (v := V.ty "ValueError") rfl) (fun _ r => r) (dv 9) (hm := T.z_isinstance)))) (dw_or1 (dt_tru (de_callB (cr_any rfl) d_any (da_cons (de_call (ok__law_classes T) (hr.mono (by decide)) tk T.g__law_classes T.F__law_classes.kp T.b__law_classes (da_cons (dv 9) da_nil)) da_nil) (hm := T.z_any)))))) (ds_one (ds_ret dc_bl)) ds_nil)
    (ds_one (ds_ret (de_call (ok__law_raised T) (hr.mono (by decide)) tk T.g__law_raised T.F__law_raised.kp T.b__law_raised (da_cons (dv 2) (da_cons (dv 3) (da_cons (dv 4) da_nil))))))))))))))))
end
end K00
namespace K00
open PySem PySem.Spec L2 DL
def mixedV (n t : Int) : Int := (((((n * 48271 + t * 69621 + 17).fmod 2147483647 * (n * 48271 + t * 69621 + 17).fmod 2147483647 + t * 40692 + 5).fmod 2147483399) * (((n * 48271 + t * 69621 + 17).fmod 2147483647 * (n * 48271 + t * 69621 + 17).fmod 2147483647 + t * 40692 + 5).fmod 2147483399) + (n * 48271 + t * 69621 + 17).fmod 2147483647 * 16807).fmod 2147483563).fdiv 32
theorem mixed_eq (n t : Int) (hn : Sm 1000 n) (ht : Sm 1000 t) : f__law_mixed [.int n, .int t] [] = .ok (.int (mixedV n t)) [] := by
  have k (x : Int) (h : x.natAbs < 2 ^ 31 := by decide) : Sm 31 x := h
  have h1 : bigC n 48271 = true := bigC_of hn (k 48271) (by decide) (by decide) (by decide)
  have h2 : bigC t 69621 = true := bigC_of ht (k 69621) (by decide) (by decide) (by decide)
  have h3 : bigC t 40692 = true := bigC_of ht (k 40692) (by decide) (by decide) (by decide)
  have hh (x : Int) : Sm 31 (x.fmod 2147483647) := Sm.fmod (by decide) (by decide)
  have hg (x : Int) : Sm 31 (x.fmod 2147483399) := Sm.fmod (by decide) (by decide)
  have h4 (x y : Int) : bigC (x.fmod 2147483647) (y.fmod 2147483647) = true := bigC_of (hh _) (hh _) (by decide) (by decide) (by decide)
  have h5 (x y : Int) : bigC (x.fmod 2147483399) (y.fmod 2147483399) = true := bigC_of (hg _) (hg _) (by decide) (by decide) (by decide)
  have h6 (x : Int) : bigC (x.fmod 2147483647) 16807 = true := bigC_of (hh _) (k _) (by decide) (by decide) (by decide)
  have h7 (x : Int) : divC x 32 = true := divC_of (by decide) (k _) (by decide) (by decide)
  simp only [runF, entry, initE, fin, finR, frz_p, frz_ref, frzW_nil, frzW_p, frzW_ref, frzW_map, contN, cont, pds, pds_map, mb, eb, sSeq, sSet, sRet, sRetN, sIf, sNext, sExpr, sBreak, sCont, mVar, mC, mCons, mNil, mTup, fTup, mLst, fLst, mBin, mUn, mCB, mTest, mTru, truF, mAndT, mOrT, mNotT, mAnd, mOr, mNot, mIf, mChain, map_p_nil, map_p_cons, deepV_p, okq_non, okq_bl, okq_int, okq_str, okq_tup, okq_lst, okqs_nil, okqs_cons, fEq_ii, fNe_ii, fEq_ss, fNe_ss, at0, at1, at2, at3, at4, seqOf_tup, seqOf_lst, seqOf_ref, listOf_lst, listOf_ref, fIx_tup, fIx_lst, fIx_ref, ix10, ix20, ix21, ix30, ix31, ix32, ix40, ix41, ix42, ix43, ix50, ix51, ix52, ix53, ix54, ix60, ix61, ix62, ix63, ix64, ix65, ix70, ix71, ix72, ix73, ix74, ix75, ix76, ix80, ix81, ix82, ix83, ix84, ix85, ix86, ix87, fI, fSub, fDiv, fMod, fPow, fNeg, fLt, fLe, fGt, fGe, fOrd, fGcd, fAbs, fInt, fLen, fStr, fIs, fIsNot, DL.isNon, fAdd, fMul, fIsi, tyOfD, tyNm, fAppend, mBM, mBM0, isL, DL.listOf, sSetItem, fSetItem, sPar, sAsg, tgName, tgTup, tgNil, tgCons, kit_ii, kit_bi, kit_ni, kit_si, kit_ti, kit_li, kit_ib, kit_bb, kit_nb, kit_sb, kit_tb, kit_lb, kit_it, kit_bt, kit_nt, kit_st, kit_tt, kit_lt, kit_is, kit_bs, kit_ns, kit_ss, kit_ts, kit_ls, kit_il, kit_bl, kit_nl, kit_sl, kit_tl, kit_ll, mCall, mCallD, callF, pass_nil, pass_p, pass_f, pass_m, callR, nodupB, setCells, yes2, line, range_1, range_2, List.length_cons, List.length_nil, List.getElem?_cons_zero, List.getElem?_cons_succ, List.map_cons, List.map_nil, List.replicate_zero, List.replicate_succ, List.range_zero, List.set_cons_zero, List.set_cons_succ, List.append_nil, List.nil_append, List.cons_append, List.contains_nil, if_true, if_false, ite_true, ite_false, reduceIte, Bool.and_true, Bool.true_and, Bool.not_true, Bool.not_false, Bool.false_and, Bool.and_false, decide_true, decide_false, Nat.reduceLeDiff, Nat.reduceSub, Nat.reduceAdd, Nat.reduceLT, Int.reduceLT, Int.reduceLE, Int.reduceEq, Int.reduceNe, Option.map_some, Option.map_none, Option.bind_some, Option.bind_none, decide_not, ne_eq, not_true_eq_false, not_false_eq_true, reduceCtorEq, and_self, nc0, nc1, nc2, nc3, nc4, nc5, nc6, f__law_mixed, m__law_mixed, h1, h2, h3, h4, h5, h6, h7]
  rfl
/-- the hand: behind at most c draws -/
def Hand (ns : List Int) (c : Nat) (l : List PD) : Prop := ∃ (i cnt : Nat) (big tot : Int), l = [.lst (ns.map .int), .int i, .int big, .int cnt, .int tot] ∧ i ≤ ns.length ∧ 0 ≤ big ∧ cnt ≤ c ∧ 0 ≤ tot ∧ tot < 2147483629
theorem start_loop (scr : D) : ∀ (ns : List Int) (tot : Int) (x : Option D), 0 ≤ tot → tot < 2147483629 → ∃ tot' x', 0 ≤ tot' ∧ tot' < 2147483629 ∧
    loop (tgName 2) b1__law_start ((ns.map PD.int).map D.p) ⟨[some scr, some (.p (.int tot)), x], [], none⟩ =
      .nx ⟨[some scr, some (.p (.int tot')), x'], [], none⟩
  | [], tot, x, h0, h1 => ⟨tot, x, h0, h1, rfl⟩
  | n :: ns, tot, x, h0, h1 => by
    have hb : bigC tot 37 = true := bigC_of (k := 31) (l := 31) (by unfold Sm; omega) (by unfold Sm; decide) (by decide) (by decide) (by decide)
    obtain ⟨t', x', a, b, e⟩ := start_loop scr ns ((tot * 37 + n).fmod 2147483629) (some (.p (.int n))) (Int.fmod_nonneg_of_pos _ (by decide)) (Int.fmod_lt_of_pos _ (by decide))
    refine ⟨t', x', a, b, ?_⟩
    rw [List.map_cons, List.map_cons]
    refine (loop_nx (s2 := ⟨[some scr, some (.p (.int ((tot * 37 + n).fmod 2147483629))), some (.p (.int n))], [], none⟩) rfl ?_).trans e
    simp only [runF, entry, initE, fin, finR, frz_p, frz_ref, frzW_nil, frzW_p, frzW_ref, frzW_map, contN, cont, pds, pds_map, mb, eb, sSeq, sSet, sRet, sRetN, sIf, sNext, sExpr, sBreak, sCont, mVar, mC, mCons, mNil, mTup, fTup, mLst, fLst, mBin, mUn, mCB, mTest, mTru, truF, mAndT, mOrT, mNotT, mAnd, mOr, mNot, mIf, mChain, map_p_nil, map_p_cons, deepV_p, okq_non, okq_bl, okq_int, okq_str, okq_tup, okq_lst, okqs_nil, okqs_cons, fEq_ii, fNe_ii, fEq_ss, fNe_ss, at0, at1, at2, at3, at4, seqOf_tup, seqOf_lst, seqOf_ref, listOf_lst, listOf_ref, fIx_tup, fIx_lst, fIx_ref, ix10, ix20, ix21, ix30, ix31, ix32, ix40, ix41, ix42, ix43, ix50, ix51, ix52, ix53, ix54, ix60, ix61, ix62, ix63, ix64, ix65, ix70, ix71, ix72, ix73, ix74, ix75, ix76, ix80, ix81, ix82, ix83, ix84, ix85, ix86, ix87, fI, fSub, fDiv, fMod, fPow, fNeg, fLt, fLe, fGt, fGe, fOrd, fGcd, fAbs, fInt, fLen, fStr, fIs, fIsNot, DL.isNon, fAdd, fMul, fIsi, tyOfD, tyNm, fAppend, mBM, mBM0, isL, DL.listOf, sSetItem, fSetItem, sPar, sAsg, tgName, tgTup, tgNil, tgCons, kit_ii, kit_bi, kit_ni, kit_si, kit_ti, kit_li, kit_ib, kit_bb, kit_nb, kit_sb, kit_tb, kit_lb, kit_it, kit_bt, kit_nt, kit_st, kit_tt, kit_lt, kit_is, kit_bs, kit_ns, kit_ss, kit_ts, kit_ls, kit_il, kit_bl, kit_nl, kit_sl, kit_tl, kit_ll, mCall, mCallD, callF, pass_nil, pass_p, pass_f, pass_m, callR, nodupB, setCells, yes2, line, range_1, range_2, List.length_cons, List.length_nil, List.getElem?_cons_zero, List.getElem?_cons_succ, List.map_cons, List.map_nil, List.replicate_zero, List.replicate_succ, List.range_zero, List.set_cons_zero, List.set_cons_succ, List.append_nil, List.nil_append, List.cons_append, List.contains_nil, if_true, if_false, ite_true, ite_false, reduceIte, Bool.and_true, Bool.true_and, Bool.not_true, Bool.not_false, Bool.false_and, Bool.and_false, decide_true, decide_false, Nat.reduceLeDiff, Nat.reduceSub, Nat.reduceAdd, Nat.reduceLT, Int.reduceLT, Int.reduceLE, Int.reduceEq, Int.reduceNe, Option.map_some, Option.map_none, Option.bind_some, Option.bind_none, decide_not, ne_eq, not_true_eq_false, not_false_eq_true, reduceCtorEq, and_self, nc0, nc1, nc2, nc3, nc4, nc5, nc6, b1__law_start, hb]
theorem start_eq (ns : List Int) (hl : ns.length ≤ 63) : ∃ l, f__law_start [.lst (ns.map .int)] [] = .new l [] ∧ Hand ns 0 l := by
  obtain ⟨t', x', a, b, e⟩ := start_loop (.p (.lst (ns.map .int))) ns 0 none (by decide) (by decide)
  have hc := mLc_map (mi := mItl (mVar 0)) (f := tgName 2) (e := e1__law_start) (g := id) (vs := [2]) (s := ⟨[some (.p (.lst (ns.map .int))), some (.p (.int t')), x'], [], none⟩) (s1 := ⟨[some (.p (.lst (ns.map .int))), some (.p (.int t')), x'], [], none⟩) (ds := ns.map .int)
    (by simp only [runF, entry, initE, fin, finR, frz_p, frz_ref, frzW_nil, frzW_p, frzW_ref, frzW_map, contN, cont, pds, pds_map, mb, eb, sSeq, sSet, sRet, sRetN, sIf, sNext, sExpr, sBreak, sCont, mVar, mC, mCons, mNil, mTup, fTup, mLst, fLst, mBin, mUn, mCB, mTest, mTru, truF, mAndT, mOrT, mNotT, mAnd, mOr, mNot, mIf, mChain, map_p_nil, map_p_cons, deepV_p, okq_non, okq_bl, okq_int, okq_str, okq_tup, okq_lst, okqs_nil, okqs_cons, fEq_ii, fNe_ii, fEq_ss, fNe_ss, at0, at1, at2, at3, at4, seqOf_tup, seqOf_lst, seqOf_ref, listOf_lst, listOf_ref, fIx_tup, fIx_lst, fIx_ref, ix10, ix20, ix21, ix30, ix31, ix32, ix40, ix41, ix42, ix43, ix50, ix51, ix52, ix53, ix54, ix60, ix61, ix62, ix63, ix64, ix65, ix70, ix71, ix72, ix73, ix74, ix75, ix76, ix80, ix81, ix82, ix83, ix84, ix85, ix86, ix87, fI, fSub, fDiv, fMod, fPow, fNeg, fLt, fLe, fGt, fGe, fOrd, fGcd, fAbs, fInt, fLen, fStr, fIs, fIsNot, DL.isNon, fAdd, fMul, fIsi, tyOfD, tyNm, fAppend, mBM, mBM0, isL, DL.listOf, sSetItem, fSetItem, sPar, sAsg, tgName, tgTup, tgNil, tgCons, kit_ii, kit_bi, kit_ni, kit_si, kit_ti, kit_li, kit_ib, kit_bb, kit_nb, kit_sb, kit_tb, kit_lb, kit_it, kit_bt, kit_nt, kit_st, kit_tt, kit_lt, kit_is, kit_bs, kit_ns, kit_ss, kit_ts, kit_ls, kit_il, kit_bl, kit_nl, kit_sl, kit_tl, kit_ll, mCall, mCallD, callF, pass_nil, pass_p, pass_f, pass_m, callR, nodupB, setCells, yes2, line, range_1, range_2, List.length_cons, List.length_nil, List.getElem?_cons_zero, List.getElem?_cons_succ, List.map_cons, List.map_nil, List.replicate_zero, List.replicate_succ, List.range_zero, List.set_cons_zero, List.set_cons_succ, List.append_nil, List.nil_append, List.cons_append, List.contains_nil, if_true, if_false, ite_true, ite_false, reduceIte, Bool.and_true, Bool.true_and, Bool.not_true, Bool.not_false, Bool.false_and, Bool.and_false, decide_true, decide_false, Nat.reduceLeDiff, Nat.reduceSub, Nat.reduceAdd, Nat.reduceLT, Int.reduceLT, Int.reduceLE, Int.reduceEq, Int.reduceNe, Option.map_some, Option.map_none, Option.bind_some, Option.bind_none, decide_not, ne_eq, not_true_eq_false, not_false_eq_true, reduceCtorEq, and_self, nc0, nc1, nc2, nc3, nc4, nc5, nc6, mItl]) rfl (by
      intro d hd acc
      obtain ⟨n, _, rfl⟩ := List.mem_map.mp hd
      refine ⟨[some (.p (.lst (ns.map .int))), some (.p (.int t')), some (.p (.int n))], [some (.p (.lst (ns.map .int))), some (.p (.int t')), some (.p (.int n))], rfl, ?_⟩
      simp only [runF, entry, initE, fin, finR, frz_p, frz_ref, frzW_nil, frzW_p, frzW_ref, frzW_map, contN, cont, pds, pds_map, mb, eb, sSeq, sSet, sRet, sRetN, sIf, sNext, sExpr, sBreak, sCont, mVar, mC, mCons, mNil, mTup, fTup, mLst, fLst, mBin, mUn, mCB, mTest, mTru, truF, mAndT, mOrT, mNotT, mAnd, mOr, mNot, mIf, mChain, map_p_nil, map_p_cons, deepV_p, okq_non, okq_bl, okq_int, okq_str, okq_tup, okq_lst, okqs_nil, okqs_cons, fEq_ii, fNe_ii, fEq_ss, fNe_ss, at0, at1, at2, at3, at4, seqOf_tup, seqOf_lst, seqOf_ref, listOf_lst, listOf_ref, fIx_tup, fIx_lst, fIx_ref, ix10, ix20, ix21, ix30, ix31, ix32, ix40, ix41, ix42, ix43, ix50, ix51, ix52, ix53, ix54, ix60, ix61, ix62, ix63, ix64, ix65, ix70, ix71, ix72, ix73, ix74, ix75, ix76, ix80, ix81, ix82, ix83, ix84, ix85, ix86, ix87, fI, fSub, fDiv, fMod, fPow, fNeg, fLt, fLe, fGt, fGe, fOrd, fGcd, fAbs, fInt, fLen, fStr, fIs, fIsNot, DL.isNon, fAdd, fMul, fIsi, tyOfD, tyNm, fAppend, mBM, mBM0, isL, DL.listOf, sSetItem, fSetItem, sPar, sAsg, tgName, tgTup, tgNil, tgCons, kit_ii, kit_bi, kit_ni, kit_si, kit_ti, kit_li, kit_ib, kit_bb, kit_nb, kit_sb, kit_tb, kit_lb, kit_it, kit_bt, kit_nt, kit_st, kit_tt, kit_lt, kit_is, kit_bs, kit_ns, kit_ss, kit_ts, kit_ls, kit_il, kit_bl, kit_nl, kit_sl, kit_tl, kit_ll, mCall, mCallD, callF, pass_nil, pass_p, pass_f, pass_m, callR, nodupB, setCells, yes2, line, range_1, range_2, List.length_cons, List.length_nil, List.getElem?_cons_zero, List.getElem?_cons_succ, List.map_cons, List.map_nil, List.replicate_zero, List.replicate_succ, List.range_zero, List.set_cons_zero, List.set_cons_succ, List.append_nil, List.nil_append, List.cons_append, List.contains_nil, if_true, if_false, ite_true, ite_false, reduceIte, Bool.and_true, Bool.true_and, Bool.not_true, Bool.not_false, Bool.false_and, Bool.and_false, decide_true, decide_false, Nat.reduceLeDiff, Nat.reduceSub, Nat.reduceAdd, Nat.reduceLT, Int.reduceLT, Int.reduceLE, Int.reduceEq, Int.reduceNe, Option.map_some, Option.map_none, Option.bind_some, Option.bind_none, decide_not, ne_eq, not_true_eq_false, not_false_eq_true, reduceCtorEq, and_self, nc0, nc1, nc2, nc3, nc4, nc5, nc6, e1__law_start, id]) (by rw [List.length_map]; unfold line; omega)
  rw [List.map_id] at hc
  have hc' : l1__law_start ⟨[some (.p (.lst (ns.map .int))), some (.p (.int t')), x'], [], none⟩ = .ok (.ref 0) ⟨[some (.p (.lst (ns.map .int))), some (.p (.int t')), x'], [.lst ((ns.map PD.int).map D.p)], none⟩ := hc
  refine ⟨[.lst (ns.map .int), .int 0, .int 0, .int 0, .int t'], ?_, 0, 0, 0, t', rfl, by omega, by decide, by decide, a, b⟩
  simp only [runF, entry, initE, fin, finR, frz_p, frz_ref, frzW_nil, frzW_p, frzW_ref, frzW_map, contN, cont, pds, pds_map, mb, eb, sSeq, sSet, sRet, sRetN, sIf, sNext, sExpr, sBreak, sCont, mVar, mC, mCons, mNil, mTup, fTup, mLst, fLst, mBin, mUn, mCB, mTest, mTru, truF, mAndT, mOrT, mNotT, mAnd, mOr, mNot, mIf, mChain, map_p_nil, map_p_cons, deepV_p, okq_non, okq_bl, okq_int, okq_str, okq_tup, okq_lst, okqs_nil, okqs_cons, fEq_ii, fNe_ii, fEq_ss, fNe_ss, at0, at1, at2, at3, at4, seqOf_tup, seqOf_lst, seqOf_ref, listOf_lst, listOf_ref, fIx_tup, fIx_lst, fIx_ref, ix10, ix20, ix21, ix30, ix31, ix32, ix40, ix41, ix42, ix43, ix50, ix51, ix52, ix53, ix54, ix60, ix61, ix62, ix63, ix64, ix65, ix70, ix71, ix72, ix73, ix74, ix75, ix76, ix80, ix81, ix82, ix83, ix84, ix85, ix86, ix87, fI, fSub, fDiv, fMod, fPow, fNeg, fLt, fLe, fGt, fGe, fOrd, fGcd, fAbs, fInt, fLen, fStr, fIs, fIsNot, DL.isNon, fAdd, fMul, fIsi, tyOfD, tyNm, fAppend, mBM, mBM0, isL, DL.listOf, sSetItem, fSetItem, sPar, sAsg, tgName, tgTup, tgNil, tgCons, kit_ii, kit_bi, kit_ni, kit_si, kit_ti, kit_li, kit_ib, kit_bb, kit_nb, kit_sb, kit_tb, kit_lb, kit_it, kit_bt, kit_nt, kit_st, kit_tt, kit_lt, kit_is, kit_bs, kit_ns, kit_ss, kit_ts, kit_ls, kit_il, kit_bl, kit_nl, kit_sl, kit_tl, kit_ll, mCall, mCallD, callF, pass_nil, pass_p, pass_f, pass_m, callR, nodupB, setCells, yes2, line, range_1, range_2, List.length_cons, List.length_nil, List.getElem?_cons_zero, List.getElem?_cons_succ, List.map_cons, List.map_nil, List.replicate_zero, List.replicate_succ, List.range_zero, List.set_cons_zero, List.set_cons_succ, List.append_nil, List.nil_append, List.cons_append, List.contains_nil, if_true, if_false, ite_true, ite_false, reduceIte, Bool.and_true, Bool.true_and, Bool.not_true, Bool.not_false, Bool.false_and, Bool.and_false, decide_true, decide_false, Nat.reduceLeDiff, Nat.reduceSub, Nat.reduceAdd, Nat.reduceLT, Int.reduceLT, Int.reduceLE, Int.reduceEq, Int.reduceNe, Option.map_some, Option.map_none, Option.bind_some, Option.bind_none, decide_not, ne_eq, not_true_eq_false, not_false_eq_true, reduceCtorEq, and_self, nc0, nc1, nc2, nc3, nc4, nc5, nc6, f__law_start, m__law_start, sFor, mItl, e, hc']
theorem cell_at (ns : List Int) (i : Nat) (n : Int) (h : ns[i]? = some n) : atI ((ns.map PD.int).map D.p) (i : Int) = some (.p (.int n)) := by
  refine atNat ?_
  rw [List.getElem?_map, List.getElem?_map, h] <;> rfl
theorem draw_eq {ns : List Int} {c : Nat} {l : List PD} {many : Int} (H : Hand ns c l) (hc : c < 10000) (h0 : 0 < many) (hm : Sm 8000 many) : ∃ r l', f__law_draw [.int many] [l] = .ok (.int r) [l'] ∧ 0 ≤ r ∧ r < many ∧ Hand ns (c + 1) l' := by
  obtain ⟨i, cnt, big, tot, rfl, hi, hb, hcn, ht0, ht1⟩ := H
  have h9 : many ≠ 0 := by omega
  have hs : powC 10 18 = true := by decide
  have hd (x : Int) : divC x many = true := divC_of h9 hm (by decide) (by decide)
  have r0 (x : Int) : 0 ≤ x.fmod many := Int.fmod_nonneg_of_pos _ h0
  have r1 (x : Int) : x.fmod many < many := Int.fmod_lt_of_pos _ h0
  have ct : Sm 1000 ((cnt : Int) + 1) := Sm.of_le (n := 20000) (by omega) (by decide)
  have keep : ∀ (j : Nat) (b : Int), j ≤ ns.length → 0 ≤ b → Hand ns (c + 1) [.lst (ns.map .int), .int j, .int b, .int ((cnt : Int) + 1), .int tot] := fun j b h1 h2 => ⟨j, cnt + 1, b, tot, rfl, h1, h2, by omega, ht0, ht1⟩
  have bdiv (b : Int) (hb : 0 ≤ b) : 0 ≤ b.fdiv many := Int.fdiv_nonneg hb (by omega)
  -- the mixed draw
  have mt := mixed_eq tot ((cnt : Int) + 1) (Sm.of_le (n := 2147483629) (by omega) (by decide)) ct
  by_cases q : big = 0 ∧ i < ns.length
  · obtain ⟨q1, q2⟩ := q
    have hcell := cell_at ns i ns[i] (List.getElem?_eq_getElem q2)
    have q2' : (i : Int) < (ns.length : Int) := by omega
    by_cases hk : (if ns[i] < 0 then -ns[i] else ns[i]) < (10 : Int) ^ (Int.toNat 18)
    · have mc := mixed_eq ns[i] ((cnt : Int) + 1) (by
        have e : (10 : Int) ^ (Int.toNat 18) = 1000000000000000000 := by decide
        rw [e] at hk
        refine Sm.of_le (n := 1000000000000000000) ?_ (by decide)
        split at hk <;> omega) ct
      refine ⟨(mixedV ns[i] ((cnt : Int) + 1)).fmod many, _, ?_, r0 _, r1 _, keep (i + 1) 0 (by omega) (by decide)⟩
      simp only [runF, entry, initE, fin, finR, frz_p, frz_ref, frzW_nil, frzW_p, frzW_ref, frzW_map, contN, cont, pds, pds_map, mb, eb, sSeq, sSet, sRet, sRetN, sIf, sNext, sExpr, sBreak, sCont, mVar, mC, mCons, mNil, mTup, fTup, mLst, fLst, mBin, mUn, mCB, mTest, mTru, truF, mAndT, mOrT, mNotT, mAnd, mOr, mNot, mIf, mChain, map_p_nil, map_p_cons, deepV_p, okq_non, okq_bl, okq_int, okq_str, okq_tup, okq_lst, okqs_nil, okqs_cons, fEq_ii, fNe_ii, fEq_ss, fNe_ss, at0, at1, at2, at3, at4, seqOf_tup, seqOf_lst, seqOf_ref, listOf_lst, listOf_ref, fIx_tup, fIx_lst, fIx_ref, ix10, ix20, ix21, ix30, ix31, ix32, ix40, ix41, ix42, ix43, ix50, ix51, ix52, ix53, ix54, ix60, ix61, ix62, ix63, ix64, ix65, ix70, ix71, ix72, ix73, ix74, ix75, ix76, ix80, ix81, ix82, ix83, ix84, ix85, ix86, ix87, fI, fSub, fDiv, fMod, fPow, fNeg, fLt, fLe, fGt, fGe, fOrd, fGcd, fAbs, fInt, fLen, fStr, fIs, fIsNot, DL.isNon, fAdd, fMul, fIsi, tyOfD, tyNm, fAppend, mBM, mBM0, isL, DL.listOf, sSetItem, fSetItem, sPar, sAsg, tgName, tgTup, tgNil, tgCons, kit_ii, kit_bi, kit_ni, kit_si, kit_ti, kit_li, kit_ib, kit_bb, kit_nb, kit_sb, kit_tb, kit_lb, kit_it, kit_bt, kit_nt, kit_st, kit_tt, kit_lt, kit_is, kit_bs, kit_ns, kit_ss, kit_ts, kit_ls, kit_il, kit_bl, kit_nl, kit_sl, kit_tl, kit_ll, mCall, mCallD, callF, pass_nil, pass_p, pass_f, pass_m, callR, nodupB, setCells, yes2, line, range_1, range_2, List.length_cons, List.length_nil, List.getElem?_cons_zero, List.getElem?_cons_succ, List.map_cons, List.map_nil, List.replicate_zero, List.replicate_succ, List.range_zero, List.set_cons_zero, List.set_cons_succ, List.append_nil, List.nil_append, List.cons_append, List.contains_nil, if_true, if_false, ite_true, ite_false, reduceIte, Bool.and_true, Bool.true_and, Bool.not_true, Bool.not_false, Bool.false_and, Bool.and_false, decide_true, decide_false, Nat.reduceLeDiff, Nat.reduceSub, Nat.reduceAdd, Nat.reduceLT, Int.reduceLT, Int.reduceLE, Int.reduceEq, Int.reduceNe, Option.map_some, Option.map_none, Option.bind_some, Option.bind_none, decide_not, ne_eq, not_true_eq_false, not_false_eq_true, reduceCtorEq, and_self, nc0, nc1, nc2, nc3, nc4, nc5, nc6, f__law_draw, m__law_draw, q1, q2', hcell, hs, mc, hk, h9, List.length_map]
      rfl
    · by_cases hz : 0 < (if ns[i] < 0 then -ns[i] else ns[i])
      · refine ⟨(if ns[i] < 0 then -ns[i] else ns[i]).fmod many, _, ?_, r0 _, r1 _, keep (i + 1) ((if ns[i] < 0 then -ns[i] else ns[i]).fdiv many) (by omega) (bdiv _ (by omega))⟩
        simp only [runF, entry, initE, fin, finR, frz_p, frz_ref, frzW_nil, frzW_p, frzW_ref, frzW_map, contN, cont, pds, pds_map, mb, eb, sSeq, sSet, sRet, sRetN, sIf, sNext, sExpr, sBreak, sCont, mVar, mC, mCons, mNil, mTup, fTup, mLst, fLst, mBin, mUn, mCB, mTest, mTru, truF, mAndT, mOrT, mNotT, mAnd, mOr, mNot, mIf, mChain, map_p_nil, map_p_cons, deepV_p, okq_non, okq_bl, okq_int, okq_str, okq_tup, okq_lst, okqs_nil, okqs_cons, fEq_ii, fNe_ii, fEq_ss, fNe_ss, at0, at1, at2, at3, at4, seqOf_tup, seqOf_lst, seqOf_ref, listOf_lst, listOf_ref, fIx_tup, fIx_lst, fIx_ref, ix10, ix20, ix21, ix30, ix31, ix32, ix40, ix41, ix42, ix43, ix50, ix51, ix52, ix53, ix54, ix60, ix61, ix62, ix63, ix64, ix65, ix70, ix71, ix72, ix73, ix74, ix75, ix76, ix80, ix81, ix82, ix83, ix84, ix85, ix86, ix87, fI, fSub, fDiv, fMod, fPow, fNeg, fLt, fLe, fGt, fGe, fOrd, fGcd, fAbs, fInt, fLen, fStr, fIs, fIsNot, DL.isNon, fAdd, fMul, fIsi, tyOfD, tyNm, fAppend, mBM, mBM0, isL, DL.listOf, sSetItem, fSetItem, sPar, sAsg, tgName, tgTup, tgNil, tgCons, kit_ii, kit_bi, kit_ni, kit_si, kit_ti, kit_li, kit_ib, kit_bb, kit_nb, kit_sb, kit_tb, kit_lb, kit_it, kit_bt, kit_nt, kit_st, kit_tt, kit_lt, kit_is, kit_bs, kit_ns, kit_ss, kit_ts, kit_ls, kit_il, kit_bl, kit_nl, kit_sl, kit_tl, kit_ll, mCall, mCallD, callF, pass_nil, pass_p, pass_f, pass_m, callR, nodupB, setCells, yes2, line, range_1, range_2, List.length_cons, List.length_nil, List.getElem?_cons_zero, List.getElem?_cons_succ, List.map_cons, List.map_nil, List.replicate_zero, List.replicate_succ, List.range_zero, List.set_cons_zero, List.set_cons_succ, List.append_nil, List.nil_append, List.cons_append, List.contains_nil, if_true, if_false, ite_true, ite_false, reduceIte, Bool.and_true, Bool.true_and, Bool.not_true, Bool.not_false, Bool.false_and, Bool.and_false, decide_true, decide_false, Nat.reduceLeDiff, Nat.reduceSub, Nat.reduceAdd, Nat.reduceLT, Int.reduceLT, Int.reduceLE, Int.reduceEq, Int.reduceNe, Option.map_some, Option.map_none, Option.bind_some, Option.bind_none, decide_not, ne_eq, not_true_eq_false, not_false_eq_true, reduceCtorEq, and_self, nc0, nc1, nc2, nc3, nc4, nc5, nc6, f__law_draw, m__law_draw, q1, q2', hcell, hs, hk, h9, hz, hd, List.length_map]
        rfl
      · exfalso
        refine hk ?_
        have e : (10 : Int) ^ (Int.toNat 18) = 1000000000000000000 := by decide
        rw [e]
        omega
  · have q' : (big = 0 → ¬ (i : Int) < (ns.length : Int)) := fun h1 h2 => q ⟨h1, by omega⟩
    by_cases hz : 0 < big
    · have hz' : ¬ big = 0 := by omega
      refine ⟨big.fmod many, _, ?_, r0 _, r1 _, keep i (big.fdiv many) hi (bdiv _ hb)⟩
      simp only [runF, entry, initE, fin, finR, frz_p, frz_ref, frzW_nil, frzW_p, frzW_ref, frzW_map, contN, cont, pds, pds_map, mb, eb, sSeq, sSet, sRet, sRetN, sIf, sNext, sExpr, sBreak, sCont, mVar, mC, mCons, mNil, mTup, fTup, mLst, fLst, mBin, mUn, mCB, mTest, mTru, truF, mAndT, mOrT, mNotT, mAnd, mOr, mNot, mIf, mChain, map_p_nil, map_p_cons, deepV_p, okq_non, okq_bl, okq_int, okq_str, okq_tup, okq_lst, okqs_nil, okqs_cons, fEq_ii, fNe_ii, fEq_ss, fNe_ss, at0, at1, at2, at3, at4, seqOf_tup, seqOf_lst, seqOf_ref, listOf_lst, listOf_ref, fIx_tup, fIx_lst, fIx_ref, ix10, ix20, ix21, ix30, ix31, ix32, ix40, ix41, ix42, ix43, ix50, ix51, ix52, ix53, ix54, ix60, ix61, ix62, ix63, ix64, ix65, ix70, ix71, ix72, ix73, ix74, ix75, ix76, ix80, ix81, ix82, ix83, ix84, ix85, ix86, ix87, fI, fSub, fDiv, fMod, fPow, fNeg, fLt, fLe, fGt, fGe, fOrd, fGcd, fAbs, fInt, fLen, fStr, fIs, fIsNot, DL.isNon, fAdd, fMul, fIsi, tyOfD, tyNm, fAppend, mBM, mBM0, isL, DL.listOf, sSetItem, fSetItem, sPar, sAsg, tgName, tgTup, tgNil, tgCons, kit_ii, kit_bi, kit_ni, kit_si, kit_ti, kit_li, kit_ib, kit_bb, kit_nb, kit_sb, kit_tb, kit_lb, kit_it, kit_bt, kit_nt, kit_st, kit_tt, kit_lt, kit_is, kit_bs, kit_ns, kit_ss, kit_ts, kit_ls, kit_il, kit_bl, kit_nl, kit_sl, kit_tl, kit_ll, mCall, mCallD, callF, pass_nil, pass_p, pass_f, pass_m, callR, nodupB, setCells, yes2, line, range_1, range_2, List.length_cons, List.length_nil, List.getElem?_cons_zero, List.getElem?_cons_succ, List.map_cons, List.map_nil, List.replicate_zero, List.replicate_succ, List.range_zero, List.set_cons_zero, List.set_cons_succ, List.append_nil, List.nil_append, List.cons_append, List.contains_nil, if_true, if_false, ite_true, ite_false, reduceIte, Bool.and_true, Bool.true_and, Bool.not_true, Bool.not_false, Bool.false_and, Bool.and_false, decide_true, decide_false, Nat.reduceLeDiff, Nat.reduceSub, Nat.reduceAdd, Nat.reduceLT, Int.reduceLT, Int.reduceLE, Int.reduceEq, Int.reduceNe, Option.map_some, Option.map_none, Option.bind_some, Option.bind_none, decide_not, ne_eq, not_true_eq_false, not_false_eq_true, reduceCtorEq, and_self, nc0, nc1, nc2, nc3, nc4, nc5, nc6, f__law_draw, m__law_draw, hz', h9, hz, hd, List.length_map]
    · have hz0 : big = 0 := by omega
      subst hz0
      have q2 := q' rfl
      refine ⟨(mixedV tot ((cnt : Int) + 1)).fmod many, _, ?_, r0 _, r1 _, keep i 0 hi (by decide)⟩
      simp only [runF, entry, initE, fin, finR, frz_p, frz_ref, frzW_nil, frzW_p, frzW_ref, frzW_map, contN, cont, pds, pds_map, mb, eb, sSeq, sSet, sRet, sRetN, sIf, sNext, sExpr, sBreak, sCont, mVar, mC, mCons, mNil, mTup, fTup, mLst, fLst, mBin, mUn, mCB, mTest, mTru, truF, mAndT, mOrT, mNotT, mAnd, mOr, mNot, mIf, mChain, map_p_nil, map_p_cons, deepV_p, okq_non, okq_bl, okq_int, okq_str, okq_tup, okq_lst, okqs_nil, okqs_cons, fEq_ii, fNe_ii, fEq_ss, fNe_ss, at0, at1, at2, at3, at4, seqOf_tup, seqOf_lst, seqOf_ref, listOf_lst, listOf_ref, fIx_tup, fIx_lst, fIx_ref, ix10, ix20, ix21, ix30, ix31, ix32, ix40, ix41, ix42, ix43, ix50, ix51, ix52, ix53, ix54, ix60, ix61, ix62, ix63, ix64, ix65, ix70, ix71, ix72, ix73, ix74, ix75, ix76, ix80, ix81, ix82, ix83, ix84, ix85, ix86, ix87, fI, fSub, fDiv, fMod, fPow, fNeg, fLt, fLe, fGt, fGe, fOrd, fGcd, fAbs, fInt, fLen, fStr, fIs, fIsNot, DL.isNon, fAdd, fMul, fIsi, tyOfD, tyNm, fAppend, mBM, mBM0, isL, DL.listOf, sSetItem, fSetItem, sPar, sAsg, tgName, tgTup, tgNil, tgCons, kit_ii, kit_bi, kit_ni, kit_si, kit_ti, kit_li, kit_ib, kit_bb, kit_nb, kit_sb, kit_tb, kit_lb, kit_it, kit_bt, kit_nt, kit_st, kit_tt, kit_lt, kit_is, kit_bs, kit_ns, kit_ss, kit_ts, kit_ls, kit_il, kit_bl, kit_nl, kit_sl, kit_tl, kit_ll, mCall, mCallD, callF, pass_nil, pass_p, pass_f, pass_m, callR, nodupB, setCells, yes2, line, range_1, range_2, List.length_cons, List.length_nil, List.getElem?_cons_zero, List.getElem?_cons_succ, List.map_cons, List.map_nil, List.replicate_zero, List.replicate_succ, List.range_zero, List.set_cons_zero, List.set_cons_succ, List.append_nil, List.nil_append, List.cons_append, List.contains_nil, if_true, if_false, ite_true, ite_false, reduceIte, Bool.and_true, Bool.true_and, Bool.not_true, Bool.not_false, Bool.false_and, Bool.and_false, decide_true, decide_false, Nat.reduceLeDiff, Nat.reduceSub, Nat.reduceAdd, Nat.reduceLT, Int.reduceLT, Int.reduceLE, Int.reduceEq, Int.reduceNe, Option.map_some, Option.map_none, Option.bind_some, Option.bind_none, decide_not, ne_eq, not_true_eq_false, not_false_eq_true, reduceCtorEq, and_self, nc0, nc1, nc2, nc3, nc4, nc5, nc6, f__law_draw, m__law_draw, q2, h9, mt, List.length_map]
end K00
namespace K00
open PySem PySem.Spec L2 DL
theorem Hand.mono {ns : List Int} {c d : Nat} {l : List PD} (H : Hand ns c l) (h : c ≤ d) : Hand ns d l := by
  obtain ⟨i, cnt, big, tot, e, a, b, x, y, z⟩ := H
  exact ⟨i, cnt, big, tot, e, a, b, by omega, y, z⟩
theorem fIx_str (s : DS) (z : Str) (i : Int) : fIx (.p (.str z)) (.p (.int i)) s = if z.length ≤ line then match atI z.cps.toList i with
    | some ch => .ok (.p (.str ⟨#[ch]⟩)) s
    | none => .no
  else .no := rfl
theorem strOk_put {w : Str} {ch : Nat} (h : PyData.strOk w = true) (hc : ch < 0x110000) : PyData.strOk (w ++ ⟨#[ch]⟩) = true := by
  unfold PyData.strOk at h ⊢
  have e : (w ++ (⟨#[ch]⟩ : Str)).cps = w.cps ++ #[ch] := rfl
  rw [e, Array.all_append, h]
  simp [hc]
abbrev abc : Str := Str.ofString "abcdefghijklmnopqrstuvwxyz"
theorem abc_list : abc.cps.toList = [97, 98, 99, 100, 101, 102, 103, 104, 105, 106, 107, 108, 109, 110, 111, 112, 113, 114, 115, 116, 117, 118, 119, 120, 121, 122] := by decide +kernel
theorem abc_at {r : Int} (h0 : 0 ≤ r) (h1 : r < 26) : ∃ ch, atI abc.cps.toList r = some ch ∧ ch < 0x110000 := by
  obtain ⟨i, rfl⟩ : ∃ i : Nat, r = (i : Int) := ⟨r.toNat, by omega⟩
  have hi : i < 26 := by omega
  have hl : abc.cps.toList.length = 26 := by rw [abc_list] <;> rfl
  refine ⟨abc.cps.toList[i]'(by omega), atNat (List.getElem?_eq_getElem _), ?_⟩
  have hm : abc.cps.toList[i]'(by omega) ∈ abc.cps.toList := List.getElem_mem _
  generalize abc.cps.toList[i]'(by omega) = y at hm
  rw [abc_list] at hm
  have ha : ∀ x ∈ ([97, 98, 99, 100, 101, 102, 103, 104, 105, 106, 107, 108, 109, 110, 111, 112, 113, 114, 115, 116, 117, 118, 119, 120, 121, 122] : List Nat), x < 0x110000 := by decide
  exact ha _ hm
theorem word_loop {ns : List Int} : ∀ (items : List D) (c : Nat) (l : List PD) (w : Str) (x : Option D), Hand ns c l → c + items.length < 10000 → PyData.strOk w = true → w.length + items.length ≤ 100 →
    ∃ l' w' x', loop (tgName 2) b1__law_word items ⟨[some (.ref 0), some (.p (.str w)), x], [.lst (l.map .p)], none⟩ = .nx ⟨[some (.ref 0), some (.p (.str w')), x'], [.lst (l'.map .p)], none⟩ ∧ Hand ns (c + items.length) l' ∧ PyData.strOk w' = true ∧ w'.length ≤ w.length + items.length
  | [], c, l, w, x, H, _, h, _ => ⟨l, w, x, rfl, H, h, Nat.le_refl _⟩
  | d :: items, c, l, w, x, H, hc, h, hl => by
    rw [List.length_cons] at hc hl
    obtain ⟨r, l1, e1, r0, r1, H1⟩ := draw_eq (many := 26) H (by omega) (by decide) (by unfold Sm; decide)
    obtain ⟨ch, e2, hch⟩ := abc_at r0 r1
    have n1 : abc.length ≤ 16777216 := by decide +kernel
    have n2 : (⟨#[ch]⟩ : Str).length = 1 := rfl
    have n3 : w.length + (⟨#[ch]⟩ : Str).length ≤ 16777216 := by rw [n2]; omega
    have n4 : (w ++ (⟨#[ch]⟩ : Str)).length = w.length + 1 := by rw [PyProof.Rows.len_cat, n2]
    obtain ⟨l', w', x', ih, a, b, b2⟩ := word_loop items (c + 1) l1 (w ++ ⟨#[ch]⟩) (some d) H1 (by omega) (strOk_put h hch) (by rw [n4]; omega)
    refine ⟨l', w', x', ?_, by rw [List.length_cons, show c + (items.length + 1) = c + 1 + items.length by omega]; exact a, b, by rw [List.length_cons]; rw [n4] at b2; omega⟩
    refine (loop_nx (s2 := ⟨[some (.ref 0), some (.p (.str (w ++ ⟨#[ch]⟩))), some d], [.lst (l1.map .p)], none⟩) rfl ?_).trans ih
    simp only [runF, entry, initE, fin, finR, frz_p, frz_ref, frzW_nil, frzW_p, frzW_ref, frzW_map, contN, cont, pds, pds_map, mb, eb, sSeq, sSet, sRet, sRetN, sIf, sNext, sExpr, sBreak, sCont, mVar, mC, mCons, mNil, mTup, fTup, mLst, fLst, mBin, mUn, mCB, mTest, mTru, truF, mAndT, mOrT, mNotT, mAnd, mOr, mNot, mIf, mChain, map_p_nil, map_p_cons, deepV_p, okq_non, okq_bl, okq_int, okq_str, okq_tup, okq_lst, okqs_nil, okqs_cons, fEq_ii, fNe_ii, fEq_ss, fNe_ss, at0, at1, at2, at3, at4, seqOf_tup, seqOf_lst, seqOf_ref, listOf_lst, listOf_ref, fIx_tup, fIx_lst, fIx_ref, ix10, ix20, ix21, ix30, ix31, ix32, ix40, ix41, ix42, ix43, ix50, ix51, ix52, ix53, ix54, ix60, ix61, ix62, ix63, ix64, ix65, ix70, ix71, ix72, ix73, ix74, ix75, ix76, ix80, ix81, ix82, ix83, ix84, ix85, ix86, ix87, fI, fSub, fDiv, fMod, fPow, fNeg, fLt, fLe, fGt, fGe, fOrd, fGcd, fAbs, fInt, fLen, fStr, fIs, fIsNot, DL.isNon, fAdd, fMul, fIsi, tyOfD, tyNm, fAppend, mBM, mBM0, isL, DL.listOf, sSetItem, fSetItem, sPar, sAsg, tgName, tgTup, tgNil, tgCons, kit_ii, kit_bi, kit_ni, kit_si, kit_ti, kit_li, kit_ib, kit_bb, kit_nb, kit_sb, kit_tb, kit_lb, kit_it, kit_bt, kit_nt, kit_st, kit_tt, kit_lt, kit_is, kit_bs, kit_ns, kit_ss, kit_ts, kit_ls, kit_il, kit_bl, kit_nl, kit_sl, kit_tl, kit_ll, mCall, mCallD, callF, pass_nil, pass_p, pass_f, pass_m, callR, nodupB, setCells, yes2, line, range_1, range_2, List.length_cons, List.length_nil, List.getElem?_cons_zero, List.getElem?_cons_succ, List.map_cons, List.map_nil, List.replicate_zero, List.replicate_succ, List.range_zero, List.set_cons_zero, List.set_cons_succ, List.append_nil, List.nil_append, List.cons_append, List.contains_nil, if_true, if_false, ite_true, ite_false, reduceIte, Bool.and_true, Bool.true_and, Bool.not_true, Bool.not_false, Bool.false_and, Bool.and_false, decide_true, decide_false, Nat.reduceLeDiff, Nat.reduceSub, Nat.reduceAdd, Nat.reduceLT, Int.reduceLT, Int.reduceLE, Int.reduceEq, Int.reduceNe, Option.map_some, Option.map_none, Option.bind_some, Option.bind_none, decide_not, ne_eq, not_true_eq_false, not_false_eq_true, reduceCtorEq, and_self, nc0, nc1, nc2, nc3, nc4, nc5, nc6, b1__law_word, e1, fIx_str, e2, n1, n3]
theorem word_eq {ns : List Int} {c : Nat} {l : List PD} (H : Hand ns c l) (hc : c + 10 < 10000) : ∃ w l', f__law_word [] [l] = .ok (.str w) [l'] ∧ PyData.strOk w = true ∧ Hand ns (c + 10) l' := by
  obtain ⟨n, l1, e1, n0, n6, H1⟩ := draw_eq (many := 6) H (by omega) (by decide) (by unfold Sm; decide)
  have hn : (1 + n).toNat ≤ 6 := by omega
  have n00 : (Str.ofString "").length = 0 := by decide +kernel
  have lim : lim62 (1 + n) = true := by
    have : n = 0 ∨ n = 1 ∨ n = 2 ∨ n = 3 ∨ n = 4 ∨ n = 5 := by omega
    rcases this with rfl | rfl | rfl | rfl | rfl | rfl <;> decide
  obtain ⟨l', w', x', e2, H2, h2, _⟩ := word_loop (rng 0 (1 + n).toNat) (c + 1) l1 (Str.ofString "") none H1 (by rw [rng_len]; omega) (by decide +kernel) (by rw [rng_len, n00]; omega)
  refine ⟨w', l', ?_, h2, H2.mono (by rw [rng_len]; omega)⟩
  simp only [runF, entry, initE, fin, finR, frz_p, frz_ref, frzW_nil, frzW_p, frzW_ref, frzW_map, contN, cont, pds, pds_map, mb, eb, sSeq, sSet, sRet, sRetN, sIf, sNext, sExpr, sBreak, sCont, mVar, mC, mCons, mNil, mTup, fTup, mLst, fLst, mBin, mUn, mCB, mTest, mTru, truF, mAndT, mOrT, mNotT, mAnd, mOr, mNot, mIf, mChain, map_p_nil, map_p_cons, deepV_p, okq_non, okq_bl, okq_int, okq_str, okq_tup, okq_lst, okqs_nil, okqs_cons, fEq_ii, fNe_ii, fEq_ss, fNe_ss, at0, at1, at2, at3, at4, seqOf_tup, seqOf_lst, seqOf_ref, listOf_lst, listOf_ref, fIx_tup, fIx_lst, fIx_ref, ix10, ix20, ix21, ix30, ix31, ix32, ix40, ix41, ix42, ix43, ix50, ix51, ix52, ix53, ix54, ix60, ix61, ix62, ix63, ix64, ix65, ix70, ix71, ix72, ix73, ix74, ix75, ix76, ix80, ix81, ix82, ix83, ix84, ix85, ix86, ix87, fI, fSub, fDiv, fMod, fPow, fNeg, fLt, fLe, fGt, fGe, fOrd, fGcd, fAbs, fInt, fLen, fStr, fIs, fIsNot, DL.isNon, fAdd, fMul, fIsi, tyOfD, tyNm, fAppend, mBM, mBM0, isL, DL.listOf, sSetItem, fSetItem, sPar, sAsg, tgName, tgTup, tgNil, tgCons, kit_ii, kit_bi, kit_ni, kit_si, kit_ti, kit_li, kit_ib, kit_bb, kit_nb, kit_sb, kit_tb, kit_lb, kit_it, kit_bt, kit_nt, kit_st, kit_tt, kit_lt, kit_is, kit_bs, kit_ns, kit_ss, kit_ts, kit_ls, kit_il, kit_bl, kit_nl, kit_sl, kit_tl, kit_ll, mCall, mCallD, callF, pass_nil, pass_p, pass_f, pass_m, callR, nodupB, setCells, yes2, line, range_1, range_2, List.length_cons, List.length_nil, List.getElem?_cons_zero, List.getElem?_cons_succ, List.map_cons, List.map_nil, List.replicate_zero, List.replicate_succ, List.range_zero, List.set_cons_zero, List.set_cons_succ, List.append_nil, List.nil_append, List.cons_append, List.contains_nil, if_true, if_false, ite_true, ite_false, reduceIte, Bool.and_true, Bool.true_and, Bool.not_true, Bool.not_false, Bool.false_and, Bool.and_false, decide_true, decide_false, Nat.reduceLeDiff, Nat.reduceSub, Nat.reduceAdd, Nat.reduceLT, Int.reduceLT, Int.reduceLE, Int.reduceEq, Int.reduceNe, Option.map_some, Option.map_none, Option.bind_some, Option.bind_none, decide_not, ne_eq, not_true_eq_false, not_false_eq_true, reduceCtorEq, and_self, nc0, nc1, nc2, nc3, nc4, nc5, nc6, f__law_word, m__law_word, sFor, e1, fRng1, lim, e2]
end K00
namespace K00
open PySem PySem.Spec L2 DL
theorem fmod_nat (a b : Nat) : ((a : Int)).fmod (b : Int) = ((a % b : Nat) : Int) := by
  rw [Int.fmod_eq_emod_of_nonneg _ (by omega)]
  exact (Int.natCast_emod a b).symm
theorem gcd_stop {d : D} {r : List D} {a : Int} {b : Nat} (x : Option D) (hb : b = 0) : loop (tgName 2) b1__law_gcd (d :: r) ⟨[some (.p (.int a)), some (.p (.int (b : Int))), x], [], none⟩ = .nx ⟨[some (.p (.int a)), some (.p (.int (b : Int))), some d], [], none⟩ := by
  have hz : ((b : Int) = 0) := by omega
  refine loop_bk rfl ?_
  simp only [runF, entry, initE, fin, finR, frz_p, frz_ref, frzW_nil, frzW_p, frzW_ref, frzW_map, contN, cont, pds, pds_map, mb, eb, sSeq, sSet, sRet, sRetN, sIf, sNext, sExpr, sBreak, sCont, mVar, mC, mCons, mNil, mTup, fTup, mLst, fLst, mBin, mUn, mCB, mTest, mTru, truF, mAndT, mOrT, mNotT, mAnd, mOr, mNot, mIf, mChain, map_p_nil, map_p_cons, deepV_p, okq_non, okq_bl, okq_int, okq_str, okq_tup, okq_lst, okqs_nil, okqs_cons, fEq_ii, fNe_ii, fEq_ss, fNe_ss, at0, at1, at2, at3, at4, seqOf_tup, seqOf_lst, seqOf_ref, listOf_lst, listOf_ref, fIx_tup, fIx_lst, fIx_ref, ix10, ix20, ix21, ix30, ix31, ix32, ix40, ix41, ix42, ix43, ix50, ix51, ix52, ix53, ix54, ix60, ix61, ix62, ix63, ix64, ix65, ix70, ix71, ix72, ix73, ix74, ix75, ix76, ix80, ix81, ix82, ix83, ix84, ix85, ix86, ix87, fI, fSub, fDiv, fMod, fPow, fNeg, fLt, fLe, fGt, fGe, fOrd, fGcd, fAbs, fInt, fLen, fStr, fIs, fIsNot, DL.isNon, fAdd, fMul, fIsi, tyOfD, tyNm, fAppend, mBM, mBM0, isL, DL.listOf, sSetItem, fSetItem, sPar, sAsg, tgName, tgTup, tgNil, tgCons, kit_ii, kit_bi, kit_ni, kit_si, kit_ti, kit_li, kit_ib, kit_bb, kit_nb, kit_sb, kit_tb, kit_lb, kit_it, kit_bt, kit_nt, kit_st, kit_tt, kit_lt, kit_is, kit_bs, kit_ns, kit_ss, kit_ts, kit_ls, kit_il, kit_bl, kit_nl, kit_sl, kit_tl, kit_ll, mCall, mCallD, callF, pass_nil, pass_p, pass_f, pass_m, callR, nodupB, setCells, yes2, line, range_1, range_2, List.length_cons, List.length_nil, List.getElem?_cons_zero, List.getElem?_cons_succ, List.map_cons, List.map_nil, List.replicate_zero, List.replicate_succ, List.range_zero, List.set_cons_zero, List.set_cons_succ, List.append_nil, List.nil_append, List.cons_append, List.contains_nil, if_true, if_false, ite_true, ite_false, reduceIte, Bool.and_true, Bool.true_and, Bool.not_true, Bool.not_false, Bool.false_and, Bool.and_false, decide_true, decide_false, Nat.reduceLeDiff, Nat.reduceSub, Nat.reduceAdd, Nat.reduceLT, Int.reduceLT, Int.reduceLE, Int.reduceEq, Int.reduceNe, Option.map_some, Option.map_none, Option.bind_some, Option.bind_none, decide_not, ne_eq, not_true_eq_false, not_false_eq_true, reduceCtorEq, and_self, nc0, nc1, nc2, nc3, nc4, nc5, nc6, b1__law_gcd, hz]
theorem gcd_step {d : D} {r : List D} {a b : Nat} (x : Option D) (hb : b ≠ 0) : loop (tgName 2) b1__law_gcd (d :: r) ⟨[some (.p (.int (a : Int))), some (.p (.int (b : Int))), x], [], none⟩ = loop (tgName 2) b1__law_gcd r ⟨[some (.p (.int (b : Int))), some (.p (.int ((a % b : Nat) : Int))), some d], [], none⟩ := by
  have hz : ¬ ((b : Int) = 0) := by omega
  refine loop_nx rfl ?_
  simp only [runF, entry, initE, fin, finR, frz_p, frz_ref, frzW_nil, frzW_p, frzW_ref, frzW_map, contN, cont, pds, pds_map, mb, eb, sSeq, sSet, sRet, sRetN, sIf, sNext, sExpr, sBreak, sCont, mVar, mC, mCons, mNil, mTup, fTup, mLst, fLst, mBin, mUn, mCB, mTest, mTru, truF, mAndT, mOrT, mNotT, mAnd, mOr, mNot, mIf, mChain, map_p_nil, map_p_cons, deepV_p, okq_non, okq_bl, okq_int, okq_str, okq_tup, okq_lst, okqs_nil, okqs_cons, fEq_ii, fNe_ii, fEq_ss, fNe_ss, at0, at1, at2, at3, at4, seqOf_tup, seqOf_lst, seqOf_ref, listOf_lst, listOf_ref, fIx_tup, fIx_lst, fIx_ref, ix10, ix20, ix21, ix30, ix31, ix32, ix40, ix41, ix42, ix43, ix50, ix51, ix52, ix53, ix54, ix60, ix61, ix62, ix63, ix64, ix65, ix70, ix71, ix72, ix73, ix74, ix75, ix76, ix80, ix81, ix82, ix83, ix84, ix85, ix86, ix87, fI, fSub, fDiv, fMod, fPow, fNeg, fLt, fLe, fGt, fGe, fOrd, fGcd, fAbs, fInt, fLen, fStr, fIs, fIsNot, DL.isNon, fAdd, fMul, fIsi, tyOfD, tyNm, fAppend, mBM, mBM0, isL, DL.listOf, sSetItem, fSetItem, sPar, sAsg, tgName, tgTup, tgNil, tgCons, kit_ii, kit_bi, kit_ni, kit_si, kit_ti, kit_li, kit_ib, kit_bb, kit_nb, kit_sb, kit_tb, kit_lb, kit_it, kit_bt, kit_nt, kit_st, kit_tt, kit_lt, kit_is, kit_bs, kit_ns, kit_ss, kit_ts, kit_ls, kit_il, kit_bl, kit_nl, kit_sl, kit_tl, kit_ll, mCall, mCallD, callF, pass_nil, pass_p, pass_f, pass_m, callR, nodupB, setCells, yes2, line, range_1, range_2, List.length_cons, List.length_nil, List.getElem?_cons_zero, List.getElem?_cons_succ, List.map_cons, List.map_nil, List.replicate_zero, List.replicate_succ, List.range_zero, List.set_cons_zero, List.set_cons_succ, List.append_nil, List.nil_append, List.cons_append, List.contains_nil, if_true, if_false, ite_true, ite_false, reduceIte, Bool.and_true, Bool.true_and, Bool.not_true, Bool.not_false, Bool.false_and, Bool.and_false, decide_true, decide_false, Nat.reduceLeDiff, Nat.reduceSub, Nat.reduceAdd, Nat.reduceLT, Int.reduceLT, Int.reduceLE, Int.reduceEq, Int.reduceNe, Option.map_some, Option.map_none, Option.bind_some, Option.bind_none, decide_not, ne_eq, not_true_eq_false, not_false_eq_true, reduceCtorEq, and_self, nc0, nc1, nc2, nc3, nc4, nc5, nc6, b1__law_gcd, hz, fmod_nat]
theorem gcd_mod (a b : Nat) : Nat.gcd b (a % b) = Nat.gcd a b := by
  rw [Nat.gcd_comm b, Nat.gcd_comm a, Nat.gcd_rec b a]
theorem gcd_loop : ∀ (L : Nat) (items : List D) (a b : Nat) (x : Option D), b < 2 ^ L → 2 * L < items.length → ∃ y z, loop (tgName 2) b1__law_gcd items ⟨[some (.p (.int (a : Int))), some (.p (.int (b : Int))), x], [], none⟩ = .nx ⟨[some (.p (.int ((Nat.gcd a b : Nat) : Int))), y, z], [], none⟩
  | L, [], a, b, x, _, hl => by simp at hl
  | 0, d :: r, a, b, x, hb, hl => by
    have hb0 : b = 0 := by simpa using hb
    refine ⟨some (.p (.int (b : Int))), some d, ?_⟩
    rw [gcd_stop x hb0, hb0, Nat.gcd_zero_right]
  | L + 1, d :: r, a, b, x, hb, hl => by
    by_cases hb0 : b = 0
    · refine ⟨some (.p (.int (b : Int))), some d, ?_⟩
      rw [gcd_stop x hb0, hb0, Nat.gcd_zero_right]
    · rw [gcd_step x hb0]
      rw [List.length_cons] at hl
      have hp : 2 ^ (L + 1) = 2 ^ L + 2 ^ L := by rw [Nat.pow_succ]; omega
      by_cases hc : a % b < 2 ^ L
      · obtain ⟨y, z, e⟩ := gcd_loop L r b (a % b) (some d) hc (by omega)
        exact ⟨y, z, by rw [e, gcd_mod]⟩
      · have hlt : a % b < b := Nat.mod_lt _ (by omega)
        have hc0 : a % b ≠ 0 := by
          intro h
          rw [h] at hc
          exact hc (Nat.pow_pos (by decide))
        match r, hl with
        | d2 :: r2, hl =>
          rw [gcd_step _ hc0]
          rw [List.length_cons] at hl
          have h2 : b % (a % b) < 2 ^ L := by
            have e1 : b % (a % b) = (b - (a % b)) % (a % b) := Nat.mod_eq_sub_mod (by omega)
            have e2 : b - (a % b) < 2 ^ L := by omega
            have e3 : (b - (a % b)) % (a % b) = b - (a % b) := Nat.mod_eq_of_lt (by omega)
            omega
          obtain ⟨y, z, e⟩ := gcd_loop L r2 (a % b) (b % (a % b)) (some d2) h2 (by omega)
          exact ⟨y, z, by rw [e, gcd_mod, gcd_mod]⟩
theorem absI (a : Int) : (if a < 0 then -a else a) = ((a.natAbs : Nat) : Int) := by
  split <;> omega
theorem lgcd_eq {a b : Int} (hb : Sm 4000 b) : f__law_gcd [.int a, .int b] [] = .ok (.int (gI a b)) [] := by
  obtain ⟨y, z, e⟩ := gcd_loop 4000 (rng 0 9000) a.natAbs b.natAbs none hb (by rw [rng_len]; decide)
  have hl : lim62 9000 = true := by decide
  simp only [runF, entry, initE, fin, finR, frz_p, frz_ref, frzW_nil, frzW_p, frzW_ref, frzW_map, contN, cont, pds, pds_map, mb, eb, sSeq, sSet, sRet, sRetN, sIf, sNext, sExpr, sBreak, sCont, mVar, mC, mCons, mNil, mTup, fTup, mLst, fLst, mBin, mUn, mCB, mTest, mTru, truF, mAndT, mOrT, mNotT, mAnd, mOr, mNot, mIf, mChain, map_p_nil, map_p_cons, deepV_p, okq_non, okq_bl, okq_int, okq_str, okq_tup, okq_lst, okqs_nil, okqs_cons, fEq_ii, fNe_ii, fEq_ss, fNe_ss, at0, at1, at2, at3, at4, seqOf_tup, seqOf_lst, seqOf_ref, listOf_lst, listOf_ref, fIx_tup, fIx_lst, fIx_ref, ix10, ix20, ix21, ix30, ix31, ix32, ix40, ix41, ix42, ix43, ix50, ix51, ix52, ix53, ix54, ix60, ix61, ix62, ix63, ix64, ix65, ix70, ix71, ix72, ix73, ix74, ix75, ix76, ix80, ix81, ix82, ix83, ix84, ix85, ix86, ix87, fI, fSub, fDiv, fMod, fPow, fNeg, fLt, fLe, fGt, fGe, fOrd, fGcd, fAbs, fInt, fLen, fStr, fIs, fIsNot, DL.isNon, fAdd, fMul, fIsi, tyOfD, tyNm, fAppend, mBM, mBM0, isL, DL.listOf, sSetItem, fSetItem, sPar, sAsg, tgName, tgTup, tgNil, tgCons, kit_ii, kit_bi, kit_ni, kit_si, kit_ti, kit_li, kit_ib, kit_bb, kit_nb, kit_sb, kit_tb, kit_lb, kit_it, kit_bt, kit_nt, kit_st, kit_tt, kit_lt, kit_is, kit_bs, kit_ns, kit_ss, kit_ts, kit_ls, kit_il, kit_bl, kit_nl, kit_sl, kit_tl, kit_ll, mCall, mCallD, callF, pass_nil, pass_p, pass_f, pass_m, callR, nodupB, setCells, yes2, line, range_1, range_2, List.length_cons, List.length_nil, List.getElem?_cons_zero, List.getElem?_cons_succ, List.map_cons, List.map_nil, List.replicate_zero, List.replicate_succ, List.range_zero, List.set_cons_zero, List.set_cons_succ, List.append_nil, List.nil_append, List.cons_append, List.contains_nil, if_true, if_false, ite_true, ite_false, reduceIte, Bool.and_true, Bool.true_and, Bool.not_true, Bool.not_false, Bool.false_and, Bool.and_false, decide_true, decide_false, Nat.reduceLeDiff, Nat.reduceSub, Nat.reduceAdd, Nat.reduceLT, Int.reduceLT, Int.reduceLE, Int.reduceEq, Int.reduceNe, Option.map_some, Option.map_none, Option.bind_some, Option.bind_none, decide_not, ne_eq, not_true_eq_false, not_false_eq_true, reduceCtorEq, and_self, nc0, nc1, nc2, nc3, nc4, nc5, nc6, f__law_gcd, m__law_gcd, sFor, fRng1, hl, absI, Int.reduceToNat, e]
  rfl
theorem lratio_eq {a b : Int} (h0 : b ≠ 0) (hb : Sm 4000 b) : f__law_ratio [.int a, .int b] [] = .ok (rat (low a b)) [] := by
  have hg := gI_pos (a := a) h0
  have sg : Sm 4000 (gI a b) := by
    refine hb.le ?_
    unfold gI
    rw [Int.natAbs_natCast]
    exact Nat.le_of_dvd (by omega) (Nat.gcd_dvd_right _ _)
  have hd (x : Int) : divC x (gI a b) = true := divC_of (by omega) sg (by decide) (by decide)
  by_cases hn : b < 0
  · have e1 := lgcd_eq (a := -a) (b := -b) hb.neg
    rw [gI_neg] at e1
    simp only [runF, entry, initE, fin, finR, frz_p, frz_ref, frzW_nil, frzW_p, frzW_ref, frzW_map, contN, cont, pds, pds_map, mb, eb, sSeq, sSet, sRet, sRetN, sIf, sNext, sExpr, sBreak, sCont, mVar, mC, mCons, mNil, mTup, fTup, mLst, fLst, mBin, mUn, mCB, mTest, mTru, truF, mAndT, mOrT, mNotT, mAnd, mOr, mNot, mIf, mChain, map_p_nil, map_p_cons, deepV_p, okq_non, okq_bl, okq_int, okq_str, okq_tup, okq_lst, okqs_nil, okqs_cons, fEq_ii, fNe_ii, fEq_ss, fNe_ss, at0, at1, at2, at3, at4, seqOf_tup, seqOf_lst, seqOf_ref, listOf_lst, listOf_ref, fIx_tup, fIx_lst, fIx_ref, ix10, ix20, ix21, ix30, ix31, ix32, ix40, ix41, ix42, ix43, ix50, ix51, ix52, ix53, ix54, ix60, ix61, ix62, ix63, ix64, ix65, ix70, ix71, ix72, ix73, ix74, ix75, ix76, ix80, ix81, ix82, ix83, ix84, ix85, ix86, ix87, fI, fSub, fDiv, fMod, fPow, fNeg, fLt, fLe, fGt, fGe, fOrd, fGcd, fAbs, fInt, fLen, fStr, fIs, fIsNot, DL.isNon, fAdd, fMul, fIsi, tyOfD, tyNm, fAppend, mBM, mBM0, isL, DL.listOf, sSetItem, fSetItem, sPar, sAsg, tgName, tgTup, tgNil, tgCons, kit_ii, kit_bi, kit_ni, kit_si, kit_ti, kit_li, kit_ib, kit_bb, kit_nb, kit_sb, kit_tb, kit_lb, kit_it, kit_bt, kit_nt, kit_st, kit_tt, kit_lt, kit_is, kit_bs, kit_ns, kit_ss, kit_ts, kit_ls, kit_il, kit_bl, kit_nl, kit_sl, kit_tl, kit_ll, mCall, mCallD, callF, pass_nil, pass_p, pass_f, pass_m, callR, nodupB, setCells, yes2, line, range_1, range_2, List.length_cons, List.length_nil, List.getElem?_cons_zero, List.getElem?_cons_succ, List.map_cons, List.map_nil, List.replicate_zero, List.replicate_succ, List.range_zero, List.set_cons_zero, List.set_cons_succ, List.append_nil, List.nil_append, List.cons_append, List.contains_nil, if_true, if_false, ite_true, ite_false, reduceIte, Bool.and_true, Bool.true_and, Bool.not_true, Bool.not_false, Bool.false_and, Bool.and_false, decide_true, decide_false, Nat.reduceLeDiff, Nat.reduceSub, Nat.reduceAdd, Nat.reduceLT, Int.reduceLT, Int.reduceLE, Int.reduceEq, Int.reduceNe, Option.map_some, Option.map_none, Option.bind_some, Option.bind_none, decide_not, ne_eq, not_true_eq_false, not_false_eq_true, reduceCtorEq, and_self, nc0, nc1, nc2, nc3, nc4, nc5, nc6, f__law_ratio, m__law_ratio, hn, e1, hd]
    rw [low_abs h0, if_pos hn] <;> rfl
  · have e1 := lgcd_eq (a := a) (b := b) hb
    simp only [runF, entry, initE, fin, finR, frz_p, frz_ref, frzW_nil, frzW_p, frzW_ref, frzW_map, contN, cont, pds, pds_map, mb, eb, sSeq, sSet, sRet, sRetN, sIf, sNext, sExpr, sBreak, sCont, mVar, mC, mCons, mNil, mTup, fTup, mLst, fLst, mBin, mUn, mCB, mTest, mTru, truF, mAndT, mOrT, mNotT, mAnd, mOr, mNot, mIf, mChain, map_p_nil, map_p_cons, deepV_p, okq_non, okq_bl, okq_int, okq_str, okq_tup, okq_lst, okqs_nil, okqs_cons, fEq_ii, fNe_ii, fEq_ss, fNe_ss, at0, at1, at2, at3, at4, seqOf_tup, seqOf_lst, seqOf_ref, listOf_lst, listOf_ref, fIx_tup, fIx_lst, fIx_ref, ix10, ix20, ix21, ix30, ix31, ix32, ix40, ix41, ix42, ix43, ix50, ix51, ix52, ix53, ix54, ix60, ix61, ix62, ix63, ix64, ix65, ix70, ix71, ix72, ix73, ix74, ix75, ix76, ix80, ix81, ix82, ix83, ix84, ix85, ix86, ix87, fI, fSub, fDiv, fMod, fPow, fNeg, fLt, fLe, fGt, fGe, fOrd, fGcd, fAbs, fInt, fLen, fStr, fIs, fIsNot, DL.isNon, fAdd, fMul, fIsi, tyOfD, tyNm, fAppend, mBM, mBM0, isL, DL.listOf, sSetItem, fSetItem, sPar, sAsg, tgName, tgTup, tgNil, tgCons, kit_ii, kit_bi, kit_ni, kit_si, kit_ti, kit_li, kit_ib, kit_bb, kit_nb, kit_sb, kit_tb, kit_lb, kit_it, kit_bt, kit_nt, kit_st, kit_tt, kit_lt, kit_is, kit_bs, kit_ns, kit_ss, kit_ts, kit_ls, kit_il, kit_bl, kit_nl, kit_sl, kit_tl, kit_ll, mCall, mCallD, callF, pass_nil, pass_p, pass_f, pass_m, callR, nodupB, setCells, yes2, line, range_1, range_2, List.length_cons, List.length_nil, List.getElem?_cons_zero, List.getElem?_cons_succ, List.map_cons, List.map_nil, List.replicate_zero, List.replicate_succ, List.range_zero, List.set_cons_zero, List.set_cons_succ, List.append_nil, List.nil_append, List.cons_append, List.contains_nil, if_true, if_false, ite_true, ite_false, reduceIte, Bool.and_true, Bool.true_and, Bool.not_true, Bool.not_false, Bool.false_and, Bool.and_false, decide_true, decide_false, Nat.reduceLeDiff, Nat.reduceSub, Nat.reduceAdd, Nat.reduceLT, Int.reduceLT, Int.reduceLE, Int.reduceEq, Int.reduceNe, Option.map_some, Option.map_none, Option.bind_some, Option.bind_none, decide_not, ne_eq, not_true_eq_false, not_false_eq_true, reduceCtorEq, and_self, nc0, nc1, nc2, nc3, nc4, nc5, nc6, f__law_ratio, m__law_ratio, hn, e1, hd]
    rw [low_abs h0, if_neg hn] <;> rfl
theorem small_eq {ns : List Int} {c : Nat} {l : List PD} (H : Hand ns c l) (hc : c + 2 < 10000) : ∃ p l', f__law_small [] [l] = .ok (rat p) [l'] ∧ Hand ns (c + 2) l' := by
  obtain ⟨a, l1, e1, a0, a1, H1⟩ := draw_eq (many := 7) H (by omega) (by decide) (by unfold Sm; decide)
  obtain ⟨b, l2, e2, b0, b1, H2⟩ := draw_eq (many := 2) H1 (by omega) (by decide) (by unfold Sm; decide)
  have r := lratio_eq (a := a - 3) (b := 1 + b) (by omega) (Sm.of_le (n := 10) (by omega) (Nat.lt_of_lt_of_le (show 10 < 2 ^ 10 by decide) (Nat.pow_le_pow_right (by decide) (by decide))))
  refine ⟨low (a - 3) (1 + b), l2, ?_, H2⟩
  simp only [runF, entry, initE, fin, finR, frz_p, frz_ref, frzW_nil, frzW_p, frzW_ref, frzW_map, contN, cont, pds, pds_map, mb, eb, sSeq, sSet, sRet, sRetN, sIf, sNext, sExpr, sBreak, sCont, mVar, mC, mCons, mNil, mTup, fTup, mLst, fLst, mBin, mUn, mCB, mTest, mTru, truF, mAndT, mOrT, mNotT, mAnd, mOr, mNot, mIf, mChain, map_p_nil, map_p_cons, deepV_p, okq_non, okq_bl, okq_int, okq_str, okq_tup, okq_lst, okqs_nil, okqs_cons, fEq_ii, fNe_ii, fEq_ss, fNe_ss, at0, at1, at2, at3, at4, seqOf_tup, seqOf_lst, seqOf_ref, listOf_lst, listOf_ref, fIx_tup, fIx_lst, fIx_ref, ix10, ix20, ix21, ix30, ix31, ix32, ix40, ix41, ix42, ix43, ix50, ix51, ix52, ix53, ix54, ix60, ix61, ix62, ix63, ix64, ix65, ix70, ix71, ix72, ix73, ix74, ix75, ix76, ix80, ix81, ix82, ix83, ix84, ix85, ix86, ix87, fI, fSub, fDiv, fMod, fPow, fNeg, fLt, fLe, fGt, fGe, fOrd, fGcd, fAbs, fInt, fLen, fStr, fIs, fIsNot, DL.isNon, fAdd, fMul, fIsi, tyOfD, tyNm, fAppend, mBM, mBM0, isL, DL.listOf, sSetItem, fSetItem, sPar, sAsg, tgName, tgTup, tgNil, tgCons, kit_ii, kit_bi, kit_ni, kit_si, kit_ti, kit_li, kit_ib, kit_bb, kit_nb, kit_sb, kit_tb, kit_lb, kit_it, kit_bt, kit_nt, kit_st, kit_tt, kit_lt, kit_is, kit_bs, kit_ns, kit_ss, kit_ts, kit_ls, kit_il, kit_bl, kit_nl, kit_sl, kit_tl, kit_ll, mCall, mCallD, callF, pass_nil, pass_p, pass_f, pass_m, callR, nodupB, setCells, yes2, line, range_1, range_2, List.length_cons, List.length_nil, List.getElem?_cons_zero, List.getElem?_cons_succ, List.map_cons, List.map_nil, List.replicate_zero, List.replicate_succ, List.range_zero, List.set_cons_zero, List.set_cons_succ, List.append_nil, List.nil_append, List.cons_append, List.contains_nil, if_true, if_false, ite_true, ite_false, reduceIte, Bool.and_true, Bool.true_and, Bool.not_true, Bool.not_false, Bool.false_and, Bool.and_false, decide_true, decide_false, Nat.reduceLeDiff, Nat.reduceSub, Nat.reduceAdd, Nat.reduceLT, Int.reduceLT, Int.reduceLE, Int.reduceEq, Int.reduceNe, Option.map_some, Option.map_none, Option.bind_some, Option.bind_none, decide_not, ne_eq, not_true_eq_false, not_false_eq_true, reduceCtorEq, and_self, nc0, nc1, nc2, nc3, nc4, nc5, nc6, f__law_small, m__law_small, e1, e2, r]
end K00
namespace K00
open PySem PySem.Spec L2 DL
theorem lk1 (f : Str) (x : PD) : List.lookup f (List.zip [f] [x]) = some x := by simp [List.lookup]
theorem lk21 (f g : Str) (x y : PD) : List.lookup f (List.zip [f, g] [x, y]) = some x := by simp [List.lookup]
theorem lk22 (f g : Str) (x y : PD) (h : (g == f) = false) : List.lookup g (List.zip [f, g] [x, y]) = some y := by simp [List.lookup, h]
theorem ne_lw : (("line" : Str) == "what") = false := by decide +kernel
theorem ne_wp : (("what" : Str) == "place") = false := by decide +kernel
theorem ne_iw : (("index" : Str) == "what") = false := by decide +kernel
theorem k1 : okF_what "BadRatio" = true := by decide +kernel
theorem k2 : okF_at "Pole" = true := by decide +kernel
theorem k3 : okF_index "BadElement" = true := by decide +kernel
theorem k4 : okF_line "BadText" = true := by decide +kernel
theorem k5 : okF_what "BadText" = true := by decide +kernel
theorem k6 : okF_what "BadTower" = true := by decide +kernel
theorem k7 : okF_place "BadTower" = true := by decide +kernel
theorem k8 : okF_place "NoPlace" = true := by decide +kernel
theorem k9 : okF_letter "NoLetter" = true := by decide +kernel
theorem k10 : okF_what "BadSystem" = true := by decide +kernel
theorem k11 : okF_place "BadSystem" = true := by decide +kernel
theorem k12 : okF_most "TooMany" = true := by decide +kernel
theorem k13 : okF_line "BadProgram" = true := by decide +kernel
theorem k14 : okF_what "BadProgram" = true := by decide +kernel
theorem k15 : okF_index "BadPoint" = true := by decide +kernel
theorem k16 : okF_what "BadPoint" = true := by decide +kernel
theorem k17 : okF_letter "LackingLetter" = true := by decide +kernel
theorem k18 : okF_mark "NoMark" = true := by decide +kernel
theorem k19 : okF_what "BadSaying" = true := by decide +kernel
theorem k20 : okF_many "BadPrefix" = true := by decide +kernel
theorem k21 : okF_what "BadLot" = true := by decide +kernel
/-- an error, what it keeps, what is due -/
def row (c : Str) (ns : List Str) (ds due : List PD) : PD := .tup [.obj c ns ds, .lst due, .lst due]
def firsts (at_ to : Int) (w : Str) (r : PD) : List PD := [row "BadRatio" ["what"] [.str w] [.str w], row "DividedByNought" [] [] [], row "Pole" ["at"] [r] [r], row "BadElement" ["index"] [.int at_] [.int at_],
  row "BadText" ["what", "line"] [.str w, .int at_] [.int at_, .str w], row "BadTower" ["place", "what"] [.int to, .str w] [.str w, .int to], row "NoPlace" ["place"] [.int at_] [.int at_],
  row "NoLetter" ["letter"] [.str w] [.str w], row "BadSystem" ["place", "what"] [.int at_, .str w] [.str w, .int at_], row "TooMany" ["most"] [.int to] [.int to]]
theorem first_eq (at_ to : Int) (w : Str) (r : PD) : f__law_first [.int at_, .int to, .str w, r] [] = .ok (.lst (firsts at_ to w r)) [] := by
  simp only [runF, entry, initE, fin, finR, frz_p, frz_ref, frzW_nil, frzW_p, frzW_ref, frzW_map, contN, cont, pds, pds_map, mb, eb, sSeq, sSet, sRet, sRetN, sIf, sNext, sExpr, sBreak, sCont, mVar, mC, mCons, mNil, mTup, fTup, mLst, fLst, mBin, mUn, mCB, mTest, mTru, truF, mAndT, mOrT, mNotT, mAnd, mOr, mNot, mIf, mChain, map_p_nil, map_p_cons, deepV_p, okq_non, okq_bl, okq_int, okq_str, okq_tup, okq_lst, okqs_nil, okqs_cons, fEq_ii, fNe_ii, fEq_ss, fNe_ss, at0, at1, at2, at3, at4, seqOf_tup, seqOf_lst, seqOf_ref, listOf_lst, listOf_ref, fIx_tup, fIx_lst, fIx_ref, ix10, ix20, ix21, ix30, ix31, ix32, ix40, ix41, ix42, ix43, ix50, ix51, ix52, ix53, ix54, ix60, ix61, ix62, ix63, ix64, ix65, ix70, ix71, ix72, ix73, ix74, ix75, ix76, ix80, ix81, ix82, ix83, ix84, ix85, ix86, ix87, fI, fSub, fDiv, fMod, fPow, fNeg, fLt, fLe, fGt, fGe, fOrd, fGcd, fAbs, fInt, fLen, fStr, fIs, fIsNot, DL.isNon, fAdd, fMul, fIsi, tyOfD, tyNm, fAppend, mBM, mBM0, isL, DL.listOf, sSetItem, fSetItem, sPar, sAsg, tgName, tgTup, tgNil, tgCons, kit_ii, kit_bi, kit_ni, kit_si, kit_ti, kit_li, kit_ib, kit_bb, kit_nb, kit_sb, kit_tb, kit_lb, kit_it, kit_bt, kit_nt, kit_st, kit_tt, kit_lt, kit_is, kit_bs, kit_ns, kit_ss, kit_ts, kit_ls, kit_il, kit_bl, kit_nl, kit_sl, kit_tl, kit_ll, mCall, mCallD, callF, pass_nil, pass_p, pass_f, pass_m, callR, nodupB, setCells, yes2, line, range_1, range_2, List.length_cons, List.length_nil, List.getElem?_cons_zero, List.getElem?_cons_succ, List.map_cons, List.map_nil, List.replicate_zero, List.replicate_succ, List.range_zero, List.set_cons_zero, List.set_cons_succ, List.append_nil, List.nil_append, List.cons_append, List.contains_nil, if_true, if_false, ite_true, ite_false, reduceIte, Bool.and_true, Bool.true_and, Bool.not_true, Bool.not_false, Bool.false_and, Bool.and_false, decide_true, decide_false, Nat.reduceLeDiff, Nat.reduceSub, Nat.reduceAdd, Nat.reduceLT, Int.reduceLT, Int.reduceLE, Int.reduceEq, Int.reduceNe, Option.map_some, Option.map_none, Option.bind_some, Option.bind_none, decide_not, ne_eq, not_true_eq_false, not_false_eq_true, reduceCtorEq, and_self, nc0, nc1, nc2, nc3, nc4, nc5, nc6, f__law_first, m__law_first, mMkV, mMkV0, mExF, List.reverse_cons, List.reverse_nil, k1, k2, k3, k4, k5, k6, k7, k8, k9, k10, k11, k12, lk1, lk21, lk22, ne_lw, ne_wp, ne_iw]
  rfl
end K00
namespace K00
open PySem PySem.Spec L2 DL
def seconds (at_ to : Int) (w : Str) (r : PD) : List PD := [row "OtherLetters" [] [] [], row "NotMonic" [] [] [], row "ZeroNote" [] [] [], row "HasFree" [] [] [],
  row "BadProgram" ["what", "line"] [.str w, .int at_] [.int at_, .str w], row "BadPoint" ["what", "index"] [.str w, .int to] [.int to, .str w], row "LackingLetter" ["letter"] [.str w] [.str w],
  row "NoPoint" [] [] [], row "NotOne" [] [] [], row "NoMark" ["mark"] [.str w] [.str w], row "NoneMarked" [] [] [],
  row "BadSaying" ["what"] [.str w] [.str w], row "BadPrefix" ["many"] [.int at_] [.int at_], row "BadLot" ["what"] [.str w] [.str w], row "NoFree" [] [] []]
theorem second_eq (at_ to : Int) (w : Str) (r : PD) : f__law_second [.int at_, .int to, .str w, r] [] = .ok (.lst (seconds at_ to w r)) [] := by
  simp only [runF, entry, initE, fin, finR, frz_p, frz_ref, frzW_nil, frzW_p, frzW_ref, frzW_map, contN, cont, pds, pds_map, mb, eb, sSeq, sSet, sRet, sRetN, sIf, sNext, sExpr, sBreak, sCont, mVar, mC, mCons, mNil, mTup, fTup, mLst, fLst, mBin, mUn, mCB, mTest, mTru, truF, mAndT, mOrT, mNotT, mAnd, mOr, mNot, mIf, mChain, map_p_nil, map_p_cons, deepV_p, okq_non, okq_bl, okq_int, okq_str, okq_tup, okq_lst, okqs_nil, okqs_cons, fEq_ii, fNe_ii, fEq_ss, fNe_ss, at0, at1, at2, at3, at4, seqOf_tup, seqOf_lst, seqOf_ref, listOf_lst, listOf_ref, fIx_tup, fIx_lst, fIx_ref, ix10, ix20, ix21, ix30, ix31, ix32, ix40, ix41, ix42, ix43, ix50, ix51, ix52, ix53, ix54, ix60, ix61, ix62, ix63, ix64, ix65, ix70, ix71, ix72, ix73, ix74, ix75, ix76, ix80, ix81, ix82, ix83, ix84, ix85, ix86, ix87, fI, fSub, fDiv, fMod, fPow, fNeg, fLt, fLe, fGt, fGe, fOrd, fGcd, fAbs, fInt, fLen, fStr, fIs, fIsNot, DL.isNon, fAdd, fMul, fIsi, tyOfD, tyNm, fAppend, mBM, mBM0, isL, DL.listOf, sSetItem, fSetItem, sPar, sAsg, tgName, tgTup, tgNil, tgCons, kit_ii, kit_bi, kit_ni, kit_si, kit_ti, kit_li, kit_ib, kit_bb, kit_nb, kit_sb, kit_tb, kit_lb, kit_it, kit_bt, kit_nt, kit_st, kit_tt, kit_lt, kit_is, kit_bs, kit_ns, kit_ss, kit_ts, kit_ls, kit_il, kit_bl, kit_nl, kit_sl, kit_tl, kit_ll, mCall, mCallD, callF, pass_nil, pass_p, pass_f, pass_m, callR, nodupB, setCells, yes2, line, range_1, range_2, List.length_cons, List.length_nil, List.getElem?_cons_zero, List.getElem?_cons_succ, List.map_cons, List.map_nil, List.replicate_zero, List.replicate_succ, List.range_zero, List.set_cons_zero, List.set_cons_succ, List.append_nil, List.nil_append, List.cons_append, List.contains_nil, if_true, if_false, ite_true, ite_false, reduceIte, Bool.and_true, Bool.true_and, Bool.not_true, Bool.not_false, Bool.false_and, Bool.and_false, decide_true, decide_false, Nat.reduceLeDiff, Nat.reduceSub, Nat.reduceAdd, Nat.reduceLT, Int.reduceLT, Int.reduceLE, Int.reduceEq, Int.reduceNe, Option.map_some, Option.map_none, Option.bind_some, Option.bind_none, decide_not, ne_eq, not_true_eq_false, not_false_eq_true, reduceCtorEq, and_self, nc0, nc1, nc2, nc3, nc4, nc5, nc6, f__law_second, m__law_second, mMkV, mMkV0, mExF, sPar3, List.reverse_cons, List.reverse_nil, k13, k14, k15, k16, k17, k18, k19, k20, k21, lk1, lk21, lk22, ne_lw, ne_wp, ne_iw]
  rfl
theorem classes_gen {c : Str} {ns : List Str} {ds : List PD} {b0 b1 b2 b3 b4 b5 b6 b7 b8 b9 b10 b11 b12 b13 b14 b15 b16 b17 b18 b19 b20 b21 b22 b23 b24 : Bool} (h0 : isV_BadRatio c = some b0) (h1 : isV_DividedByNought c = some b1) (h2 : isV_Pole c = some b2) (h3 : isV_BadElement c = some b3) (h4 : isV_BadText c = some b4) (h5 : isV_BadTower c = some b5) (h6 : isV_NoPlace c = some b6) (h7 : isV_NoLetter c = some b7) (h8 : isV_BadSystem c = some b8) (h9 : isV_TooMany c = some b9) (h10 : isV_OtherLetters c = some b10) (h11 : isV_NotMonic c = some b11) (h12 : isV_ZeroNote c = some b12) (h13 : isV_HasFree c = some b13) (h14 : isV_BadProgram c = some b14) (h15 : isV_BadPoint c = some b15) (h16 : isV_LackingLetter c = some b16) (h17 : isV_NoPoint c = some b17) (h18 : isV_NotOne c = some b18) (h19 : isV_NoMark c = some b19) (h20 : isV_NoneMarked c = some b20) (h21 : isV_BadSaying c = some b21) (h22 : isV_BadPrefix c = some b22) (h23 : isV_BadLot c = some b23) (h24 : isV_NoFree c = some b24) :
    f__law_classes [.obj c ns ds] [] = .ok (.lst [.bl b0, .bl b1, .bl b2, .bl b3, .bl b4, .bl b5, .bl b6, .bl b7, .bl b8, .bl b9, .bl b10, .bl b11, .bl b12, .bl b13, .bl b14, .bl b15, .bl b16, .bl b17, .bl b18, .bl b19, .bl b20, .bl b21, .bl b22, .bl b23, .bl b24]) [] := by
  simp only [runF, entry, initE, fin, finR, frz_p, frz_ref, frzW_nil, frzW_p, frzW_ref, frzW_map, contN, cont, pds, pds_map, mb, eb, sSeq, sSet, sRet, sRetN, sIf, sNext, sExpr, sBreak, sCont, mVar, mC, mCons, mNil, mTup, fTup, mLst, fLst, mBin, mUn, mCB, mTest, mTru, truF, mAndT, mOrT, mNotT, mAnd, mOr, mNot, mIf, mChain, map_p_nil, map_p_cons, deepV_p, okq_non, okq_bl, okq_int, okq_str, okq_tup, okq_lst, okqs_nil, okqs_cons, fEq_ii, fNe_ii, fEq_ss, fNe_ss, at0, at1, at2, at3, at4, seqOf_tup, seqOf_lst, seqOf_ref, listOf_lst, listOf_ref, fIx_tup, fIx_lst, fIx_ref, ix10, ix20, ix21, ix30, ix31, ix32, ix40, ix41, ix42, ix43, ix50, ix51, ix52, ix53, ix54, ix60, ix61, ix62, ix63, ix64, ix65, ix70, ix71, ix72, ix73, ix74, ix75, ix76, ix80, ix81, ix82, ix83, ix84, ix85, ix86, ix87, fI, fSub, fDiv, fMod, fPow, fNeg, fLt, fLe, fGt, fGe, fOrd, fGcd, fAbs, fInt, fLen, fStr, fIs, fIsNot, DL.isNon, fAdd, fMul, fIsi, tyOfD, tyNm, fAppend, mBM, mBM0, isL, DL.listOf, sSetItem, fSetItem, sPar, sAsg, tgName, tgTup, tgNil, tgCons, kit_ii, kit_bi, kit_ni, kit_si, kit_ti, kit_li, kit_ib, kit_bb, kit_nb, kit_sb, kit_tb, kit_lb, kit_it, kit_bt, kit_nt, kit_st, kit_tt, kit_lt, kit_is, kit_bs, kit_ns, kit_ss, kit_ts, kit_ls, kit_il, kit_bl, kit_nl, kit_sl, kit_tl, kit_ll, mCall, mCallD, callF, pass_nil, pass_p, pass_f, pass_m, callR, nodupB, setCells, yes2, line, range_1, range_2, List.length_cons, List.length_nil, List.getElem?_cons_zero, List.getElem?_cons_succ, List.map_cons, List.map_nil, List.replicate_zero, List.replicate_succ, List.range_zero, List.set_cons_zero, List.set_cons_succ, List.append_nil, List.nil_append, List.cons_append, List.contains_nil, if_true, if_false, ite_true, ite_false, reduceIte, Bool.and_true, Bool.true_and, Bool.not_true, Bool.not_false, Bool.false_and, Bool.and_false, decide_true, decide_false, Nat.reduceLeDiff, Nat.reduceSub, Nat.reduceAdd, Nat.reduceLT, Int.reduceLT, Int.reduceLE, Int.reduceEq, Int.reduceNe, Option.map_some, Option.map_none, Option.bind_some, Option.bind_none, decide_not, ne_eq, not_true_eq_false, not_false_eq_true, reduceCtorEq, and_self, nc0, nc1, nc2, nc3, nc4, nc5, nc6, f__law_classes, m__law_classes, fIsV, h0, h1, h2, h3, h4, h5, h6, h7, h8, h9, h10, h11, h12, h13, h14, h15, h16, h17, h18, h19, h20, h21, h22, h23, h24]
def oneAt (k : Nat) : List PD := (List.range 25).map fun i => .bl (decide ((k : Int) = ((i : Nat) : Int)))
theorem cls_BadRatio (ns : List Str) (ds : List PD) : f__law_classes [.obj "BadRatio" ns ds] [] = .ok (.lst (oneAt 0)) [] := (classes_gen (b0 := true) (b1 := false) (b2 := false) (b3 := false) (b4 := false) (b5 := false) (b6 := false) (b7 := false) (b8 := false) (b9 := false) (b10 := false) (b11 := false) (b12 := false) (b13 := false) (b14 := false) (b15 := false) (b16 := false) (b17 := false) (b18 := false) (b19 := false) (b20 := false) (b21 := false) (b22 := false) (b23 := false) (b24 := false) (by decide +kernel) (by decide +kernel) (by decide +kernel) (by decide +kernel) (by decide +kernel) (by decide +kernel) (by decide +kernel) (by decide +kernel) (by decide +kernel) (by decide +kernel) (by decide +kernel) (by decide +kernel) (by decide +kernel) (by decide +kernel) (by decide +kernel) (by decide +kernel) (by decide +kernel) (by decide +kernel) (by decide +kernel) (by decide +kernel) (by decide +kernel) (by decide +kernel) (by decide +kernel) (by decide +kernel) (by decide +kernel)).trans rfl
theorem cls_DividedByNought (ns : List Str) (ds : List PD) : f__law_classes [.obj "DividedByNought" ns ds] [] = .ok (.lst (oneAt 1)) [] := (classes_gen (b0 := false) (b1 := true) (b2 := false) (b3 := false) (b4 := false) (b5 := false) (b6 := false) (b7 := false) (b8 := false) (b9 := false) (b10 := false) (b11 := false) (b12 := false) (b13 := false) (b14 := false) (b15 := false) (b16 := false) (b17 := false) (b18 := false) (b19 := false) (b20 := false) (b21 := false) (b22 := false) (b23 := false) (b24 := false) (by decide +kernel) (by decide +kernel) (by decide +kernel) (by decide +kernel) (by decide +kernel) (by decide +kernel) (by decide +kernel) (by decide +kernel) (by decide +kernel) (by decide +kernel) (by decide +kernel) (by decide +kernel) (by decide +kernel) (by decide +kernel) (by decide +kernel) (by decide +kernel) (by decide +kernel) (by decide +kernel) (by decide +kernel) (by decide +kernel) (by decide +kernel) (by decide +kernel) (by decide +kernel) (by decide +kernel) (by decide +kernel)).trans rfl
theorem cls_Pole (ns : List Str) (ds : List PD) : f__law_classes [.obj "Pole" ns ds] [] = .ok (.lst (oneAt 2)) [] := (classes_gen (b0 := false) (b1 := false) (b2 := true) (b3 := false) (b4 := false) (b5 := false) (b6 := false) (b7 := false) (b8 := false) (b9 := false) (b10 := false) (b11 := false) (b12 := false) (b13 := false) (b14 := false) (b15 := false) (b16 := false) (b17 := false) (b18 := false) (b19 := false) (b20 := false) (b21 := false) (b22 := false) (b23 := false) (b24 := false) (by decide +kernel) (by decide +kernel) (by decide +kernel) (by decide +kernel) (by decide +kernel) (by decide +kernel) (by decide +kernel) (by decide +kernel) (by decide +kernel) (by decide +kernel) (by decide +kernel) (by decide +kernel) (by decide +kernel) (by decide +kernel) (by decide +kernel) (by decide +kernel) (by decide +kernel) (by decide +kernel) (by decide +kernel) (by decide +kernel) (by decide +kernel) (by decide +kernel) (by decide +kernel) (by decide +kernel) (by decide +kernel)).trans rfl
theorem cls_BadElement (ns : List Str) (ds : List PD) : f__law_classes [.obj "BadElement" ns ds] [] = .ok (.lst (oneAt 3)) [] := (classes_gen (b0 := false) (b1 := false) (b2 := false) (b3 := true) (b4 := false) (b5 := false) (b6 := false) (b7 := false) (b8 := false) (b9 := false) (b10 := false) (b11 := false) (b12 := false) (b13 := false) (b14 := false) (b15 := false) (b16 := false) (b17 := false) (b18 := false) (b19 := false) (b20 := false) (b21 := false) (b22 := false) (b23 := false) (b24 := false) (by decide +kernel) (by decide +kernel) (by decide +kernel) (by decide +kernel) (by decide +kernel) (by decide +kernel) (by decide +kernel) (by decide +kernel) (by decide +kernel) (by decide +kernel) (by decide +kernel) (by decide +kernel) (by decide +kernel) (by decide +kernel) (by decide +kernel) (by decide +kernel) (by decide +kernel) (by decide +kernel) (by decide +kernel) (by decide +kernel) (by decide +kernel) (by decide +kernel) (by decide +kernel) (by decide +kernel) (by decide +kernel)).trans rfl
theorem cls_BadText (ns : List Str) (ds : List PD) : f__law_classes [.obj "BadText" ns ds] [] = .ok (.lst (oneAt 4)) [] := (classes_gen (b0 := false) (b1 := false) (b2 := false) (b3 := false) (b4 := true) (b5 := false) (b6 := false) (b7 := false) (b8 := false) (b9 := false) (b10 := false) (b11 := false) (b12 := false) (b13 := false) (b14 := false) (b15 := false) (b16 := false) (b17 := false) (b18 := false) (b19 := false) (b20 := false) (b21 := false) (b22 := false) (b23 := false) (b24 := false) (by decide +kernel) (by decide +kernel) (by decide +kernel) (by decide +kernel) (by decide +kernel) (by decide +kernel) (by decide +kernel) (by decide +kernel) (by decide +kernel) (by decide +kernel) (by decide +kernel) (by decide +kernel) (by decide +kernel) (by decide +kernel) (by decide +kernel) (by decide +kernel) (by decide +kernel) (by decide +kernel) (by decide +kernel) (by decide +kernel) (by decide +kernel) (by decide +kernel) (by decide +kernel) (by decide +kernel) (by decide +kernel)).trans rfl
theorem cls_BadTower (ns : List Str) (ds : List PD) : f__law_classes [.obj "BadTower" ns ds] [] = .ok (.lst (oneAt 5)) [] := (classes_gen (b0 := false) (b1 := false) (b2 := false) (b3 := false) (b4 := false) (b5 := true) (b6 := false) (b7 := false) (b8 := false) (b9 := false) (b10 := false) (b11 := false) (b12 := false) (b13 := false) (b14 := false) (b15 := false) (b16 := false) (b17 := false) (b18 := false) (b19 := false) (b20 := false) (b21 := false) (b22 := false) (b23 := false) (b24 := false) (by decide +kernel) (by decide +kernel) (by decide +kernel) (by decide +kernel) (by decide +kernel) (by decide +kernel) (by decide +kernel) (by decide +kernel) (by decide +kernel) (by decide +kernel) (by decide +kernel) (by decide +kernel) (by decide +kernel) (by decide +kernel) (by decide +kernel) (by decide +kernel) (by decide +kernel) (by decide +kernel) (by decide +kernel) (by decide +kernel) (by decide +kernel) (by decide +kernel) (by decide +kernel) (by decide +kernel) (by decide +kernel)).trans rfl
theorem cls_NoPlace (ns : List Str) (ds : List PD) : f__law_classes [.obj "NoPlace" ns ds] [] = .ok (.lst (oneAt 6)) [] := (classes_gen (b0 := false) (b1 := false) (b2 := false) (b3 := false) (b4 := false) (b5 := false) (b6 := true) (b7 := false) (b8 := false) (b9 := false) (b10 := false) (b11 := false) (b12 := false) (b13 := false) (b14 := false) (b15 := false) (b16 := false) (b17 := false) (b18 := false) (b19 := false) (b20 := false) (b21 := false) (b22 := false) (b23 := false) (b24 := false) (by decide +kernel) (by decide +kernel) (by decide +kernel) (by decide +kernel) (by decide +kernel) (by decide +kernel) (by decide +kernel) (by decide +kernel) (by decide +kernel) (by decide +kernel) (by decide +kernel) (by decide +kernel) (by decide +kernel) (by decide +kernel) (by decide +kernel) (by decide +kernel) (by decide +kernel) (by decide +kernel) (by decide +kernel) (by decide +kernel) (by decide +kernel) (by decide +kernel) (by decide +kernel) (by decide +kernel) (by decide +kernel)).trans rfl
theorem cls_NoLetter (ns : List Str) (ds : List PD) : f__law_classes [.obj "NoLetter" ns ds] [] = .ok (.lst (oneAt 7)) [] := (classes_gen (b0 := false) (b1 := false) (b2 := false) (b3 := false) (b4 := false) (b5 := false) (b6 := false) (b7 := true) (b8 := false) (b9 := false) (b10 := false) (b11 := false) (b12 := false) (b13 := false) (b14 := false) (b15 := false) (b16 := false) (b17 := false) (b18 := false) (b19 := false) (b20 := false) (b21 := false) (b22 := false) (b23 := false) (b24 := false) (by decide +kernel) (by decide +kernel) (by decide +kernel) (by decide +kernel) (by decide +kernel) (by decide +kernel) (by decide +kernel) (by decide +kernel) (by decide +kernel) (by decide +kernel) (by decide +kernel) (by decide +kernel) (by decide +kernel) (by decide +kernel) (by decide +kernel) (by decide +kernel) (by decide +kernel) (by decide +kernel) (by decide +kernel) (by decide +kernel) (by decide +kernel) (by decide +kernel) (by decide +kernel) (by decide +kernel) (by decide +kernel)).trans rfl
theorem cls_BadSystem (ns : List Str) (ds : List PD) : f__law_classes [.obj "BadSystem" ns ds] [] = .ok (.lst (oneAt 8)) [] := (classes_gen (b0 := false) (b1 := false) (b2 := false) (b3 := false) (b4 := false) (b5 := false) (b6 := false) (b7 := false) (b8 := true) (b9 := false) (b10 := false) (b11 := false) (b12 := false) (b13 := false) (b14 := false) (b15 := false) (b16 := false) (b17 := false) (b18 := false) (b19 := false) (b20 := false) (b21 := false) (b22 := false) (b23 := false) (b24 := false) (by decide +kernel) (by decide +kernel) (by decide +kernel) (by decide +kernel) (by decide +kernel) (by decide +kernel) (by decide +kernel) (by decide +kernel) (by decide +kernel) (by decide +kernel) (by decide +kernel) (by decide +kernel) (by decide +kernel) (by decide +kernel) (by decide +kernel) (by decide +kernel) (by decide +kernel) (by decide +kernel) (by decide +kernel) (by decide +kernel) (by decide +kernel) (by decide +kernel) (by decide +kernel) (by decide +kernel) (by decide +kernel)).trans rfl
theorem cls_TooMany (ns : List Str) (ds : List PD) : f__law_classes [.obj "TooMany" ns ds] [] = .ok (.lst (oneAt 9)) [] := (classes_gen (b0 := false) (b1 := false) (b2 := false) (b3 := false) (b4 := false) (b5 := false) (b6 := false) (b7 := false) (b8 := false) (b9 := true) (b10 := false) (b11 := false) (b12 := false) (b13 := false) (b14 := false) (b15 := false) (b16 := false) (b17 := false) (b18 := false) (b19 := false) (b20 := false) (b21 := false) (b22 := false) (b23 := false) (b24 := false) (by decide +kernel) (by decide +kernel) (by decide +kernel) (by decide +kernel) (by decide +kernel) (by decide +kernel) (by decide +kernel) (by decide +kernel) (by decide +kernel) (by decide +kernel) (by decide +kernel) (by decide +kernel) (by decide +kernel) (by decide +kernel) (by decide +kernel) (by decide +kernel) (by decide +kernel) (by decide +kernel) (by decide +kernel) (by decide +kernel) (by decide +kernel) (by decide +kernel) (by decide +kernel) (by decide +kernel) (by decide +kernel)).trans rfl
theorem cls_OtherLetters (ns : List Str) (ds : List PD) : f__law_classes [.obj "OtherLetters" ns ds] [] = .ok (.lst (oneAt 10)) [] := (classes_gen (b0 := false) (b1 := false) (b2 := false) (b3 := false) (b4 := false) (b5 := false) (b6 := false) (b7 := false) (b8 := false) (b9 := false) (b10 := true) (b11 := false) (b12 := false) (b13 := false) (b14 := false) (b15 := false) (b16 := false) (b17 := false) (b18 := false) (b19 := false) (b20 := false) (b21 := false) (b22 := false) (b23 := false) (b24 := false) (by decide +kernel) (by decide +kernel) (by decide +kernel) (by decide +kernel) (by decide +kernel) (by decide +kernel) (by decide +kernel) (by decide +kernel) (by decide +kernel) (by decide +kernel) (by decide +kernel) (by decide +kernel) (by decide +kernel) (by decide +kernel) (by decide +kernel) (by decide +kernel) (by decide +kernel) (by decide +kernel) (by decide +kernel) (by decide +kernel) (by decide +kernel) (by decide +kernel) (by decide +kernel) (by decide +kernel) (by decide +kernel)).trans rfl
theorem cls_NotMonic (ns : List Str) (ds : List PD) : f__law_classes [.obj "NotMonic" ns ds] [] = .ok (.lst (oneAt 11)) [] := (classes_gen (b0 := false) (b1 := false) (b2 := false) (b3 := false) (b4 := false) (b5 := false) (b6 := false) (b7 := false) (b8 := false) (b9 := false) (b10 := false) (b11 := true) (b12 := false) (b13 := false) (b14 := false) (b15 := false) (b16 := false) (b17 := false) (b18 := false) (b19 := false) (b20 := false) (b21 := false) (b22 := false) (b23 := false) (b24 := false) (by decide +kernel) (by decide +kernel) (by decide +kernel) (by decide +kernel) (by decide +kernel) (by decide +kernel) (by decide +kernel) (by decide +kernel) (by decide +kernel) (by decide +kernel) (by decide +kernel) (by decide +kernel) (by decide +kernel) (by decide +kernel) (by decide +kernel) (by decide +kernel) (by decide +kernel) (by decide +kernel) (by decide +kernel) (by decide +kernel) (by decide +kernel) (by decide +kernel) (by decide +kernel) (by decide +kernel) (by decide +kernel)).trans rfl
theorem cls_ZeroNote (ns : List Str) (ds : List PD) : f__law_classes [.obj "ZeroNote" ns ds] [] = .ok (.lst (oneAt 12)) [] := (classes_gen (b0 := false) (b1 := false) (b2 := false) (b3 := false) (b4 := false) (b5 := false) (b6 := false) (b7 := false) (b8 := false) (b9 := false) (b10 := false) (b11 := false) (b12 := true) (b13 := false) (b14 := false) (b15 := false) (b16 := false) (b17 := false) (b18 := false) (b19 := false) (b20 := false) (b21 := false) (b22 := false) (b23 := false) (b24 := false) (by decide +kernel) (by decide +kernel) (by decide +kernel) (by decide +kernel) (by decide +kernel) (by decide +kernel) (by decide +kernel) (by decide +kernel) (by decide +kernel) (by decide +kernel) (by decide +kernel) (by decide +kernel) (by decide +kernel) (by decide +kernel) (by decide +kernel) (by decide +kernel) (by decide +kernel) (by decide +kernel) (by decide +kernel) (by decide +kernel) (by decide +kernel) (by decide +kernel) (by decide +kernel) (by decide +kernel) (by decide +kernel)).trans rfl
theorem cls_HasFree (ns : List Str) (ds : List PD) : f__law_classes [.obj "HasFree" ns ds] [] = .ok (.lst (oneAt 13)) [] := (classes_gen (b0 := false) (b1 := false) (b2 := false) (b3 := false) (b4 := false) (b5 := false) (b6 := false) (b7 := false) (b8 := false) (b9 := false) (b10 := false) (b11 := false) (b12 := false) (b13 := true) (b14 := false) (b15 := false) (b16 := false) (b17 := false) (b18 := false) (b19 := false) (b20 := false) (b21 := false) (b22 := false) (b23 := false) (b24 := false) (by decide +kernel) (by decide +kernel) (by decide +kernel) (by decide +kernel) (by decide +kernel) (by decide +kernel) (by decide +kernel) (by decide +kernel) (by decide +kernel) (by decide +kernel) (by decide +kernel) (by decide +kernel) (by decide +kernel) (by decide +kernel) (by decide +kernel) (by decide +kernel) (by decide +kernel) (by decide +kernel) (by decide +kernel) (by decide +kernel) (by decide +kernel) (by decide +kernel) (by decide +kernel) (by decide +kernel) (by decide +kernel)).trans rfl
theorem cls_BadProgram (ns : List Str) (ds : List PD) : f__law_classes [.obj "BadProgram" ns ds] [] = .ok (.lst (oneAt 14)) [] := (classes_gen (b0 := false) (b1 := false) (b2 := false) (b3 := false) (b4 := false) (b5 := false) (b6 := false) (b7 := false) (b8 := false) (b9 := false) (b10 := false) (b11 := false) (b12 := false) (b13 := false) (b14 := true) (b15 := false) (b16 := false) (b17 := false) (b18 := false) (b19 := false) (b20 := false) (b21 := false) (b22 := false) (b23 := false) (b24 := false) (by decide +kernel) (by decide +kernel) (by decide +kernel) (by decide +kernel) (by decide +kernel) (by decide +kernel) (by decide +kernel) (by decide +kernel) (by decide +kernel) (by decide +kernel) (by decide +kernel) (by decide +kernel) (by decide +kernel) (by decide +kernel) (by decide +kernel) (by decide +kernel) (by decide +kernel) (by decide +kernel) (by decide +kernel) (by decide +kernel) (by decide +kernel) (by decide +kernel) (by decide +kernel) (by decide +kernel) (by decide +kernel)).trans rfl
theorem cls_BadPoint (ns : List Str) (ds : List PD) : f__law_classes [.obj "BadPoint" ns ds] [] = .ok (.lst (oneAt 15)) [] := (classes_gen (b0 := false) (b1 := false) (b2 := false) (b3 := false) (b4 := false) (b5 := false) (b6 := false) (b7 := false) (b8 := false) (b9 := false) (b10 := false) (b11 := false) (b12 := false) (b13 := false) (b14 := false) (b15 := true) (b16 := false) (b17 := false) (b18 := false) (b19 := false) (b20 := false) (b21 := false) (b22 := false) (b23 := false) (b24 := false) (by decide +kernel) (by decide +kernel) (by decide +kernel) (by decide +kernel) (by decide +kernel) (by decide +kernel) (by decide +kernel) (by decide +kernel) (by decide +kernel) (by decide +kernel) (by decide +kernel) (by decide +kernel) (by decide +kernel) (by decide +kernel) (by decide +kernel) (by decide +kernel) (by decide +kernel) (by decide +kernel) (by decide +kernel) (by decide +kernel) (by decide +kernel) (by decide +kernel) (by decide +kernel) (by decide +kernel) (by decide +kernel)).trans rfl
theorem cls_LackingLetter (ns : List Str) (ds : List PD) : f__law_classes [.obj "LackingLetter" ns ds] [] = .ok (.lst (oneAt 16)) [] := (classes_gen (b0 := false) (b1 := false) (b2 := false) (b3 := false) (b4 := false) (b5 := false) (b6 := false) (b7 := false) (b8 := false) (b9 := false) (b10 := false) (b11 := false) (b12 := false) (b13 := false) (b14 := false) (b15 := false) (b16 := true) (b17 := false) (b18 := false) (b19 := false) (b20 := false) (b21 := false) (b22 := false) (b23 := false) (b24 := false) (by decide +kernel) (by decide +kernel) (by decide +kernel) (by decide +kernel) (by decide +kernel) (by decide +kernel) (by decide +kernel) (by decide +kernel) (by decide +kernel) (by decide +kernel) (by decide +kernel) (by decide +kernel) (by decide +kernel) (by decide +kernel) (by decide +kernel) (by decide +kernel) (by decide +kernel) (by decide +kernel) (by decide +kernel) (by decide +kernel) (by decide +kernel) (by decide +kernel) (by decide +kernel) (by decide +kernel) (by decide +kernel)).trans rfl
theorem cls_NoPoint (ns : List Str) (ds : List PD) : f__law_classes [.obj "NoPoint" ns ds] [] = .ok (.lst (oneAt 17)) [] := (classes_gen (b0 := false) (b1 := false) (b2 := false) (b3 := false) (b4 := false) (b5 := false) (b6 := false) (b7 := false) (b8 := false) (b9 := false) (b10 := false) (b11 := false) (b12 := false) (b13 := false) (b14 := false) (b15 := false) (b16 := false) (b17 := true) (b18 := false) (b19 := false) (b20 := false) (b21 := false) (b22 := false) (b23 := false) (b24 := false) (by decide +kernel) (by decide +kernel) (by decide +kernel) (by decide +kernel) (by decide +kernel) (by decide +kernel) (by decide +kernel) (by decide +kernel) (by decide +kernel) (by decide +kernel) (by decide +kernel) (by decide +kernel) (by decide +kernel) (by decide +kernel) (by decide +kernel) (by decide +kernel) (by decide +kernel) (by decide +kernel) (by decide +kernel) (by decide +kernel) (by decide +kernel) (by decide +kernel) (by decide +kernel) (by decide +kernel) (by decide +kernel)).trans rfl
theorem cls_NotOne (ns : List Str) (ds : List PD) : f__law_classes [.obj "NotOne" ns ds] [] = .ok (.lst (oneAt 18)) [] := (classes_gen (b0 := false) (b1 := false) (b2 := false) (b3 := false) (b4 := false) (b5 := false) (b6 := false) (b7 := false) (b8 := false) (b9 := false) (b10 := false) (b11 := false) (b12 := false) (b13 := false) (b14 := false) (b15 := false) (b16 := false) (b17 := false) (b18 := true) (b19 := false) (b20 := false) (b21 := false) (b22 := false) (b23 := false) (b24 := false) (by decide +kernel) (by decide +kernel) (by decide +kernel) (by decide +kernel) (by decide +kernel) (by decide +kernel) (by decide +kernel) (by decide +kernel) (by decide +kernel) (by decide +kernel) (by decide +kernel) (by decide +kernel) (by decide +kernel) (by decide +kernel) (by decide +kernel) (by decide +kernel) (by decide +kernel) (by decide +kernel) (by decide +kernel) (by decide +kernel) (by decide +kernel) (by decide +kernel) (by decide +kernel) (by decide +kernel) (by decide +kernel)).trans rfl
theorem cls_NoMark (ns : List Str) (ds : List PD) : f__law_classes [.obj "NoMark" ns ds] [] = .ok (.lst (oneAt 19)) [] := (classes_gen (b0 := false) (b1 := false) (b2 := false) (b3 := false) (b4 := false) (b5 := false) (b6 := false) (b7 := false) (b8 := false) (b9 := false) (b10 := false) (b11 := false) (b12 := false) (b13 := false) (b14 := false) (b15 := false) (b16 := false) (b17 := false) (b18 := false) (b19 := true) (b20 := false) (b21 := false) (b22 := false) (b23 := false) (b24 := false) (by decide +kernel) (by decide +kernel) (by decide +kernel) (by decide +kernel) (by decide +kernel) (by decide +kernel) (by decide +kernel) (by decide +kernel) (by decide +kernel) (by decide +kernel) (by decide +kernel) (by decide +kernel) (by decide +kernel) (by decide +kernel) (by decide +kernel) (by decide +kernel) (by decide +kernel) (by decide +kernel) (by decide +kernel) (by decide +kernel) (by decide +kernel) (by decide +kernel) (by decide +kernel) (by decide +kernel) (by decide +kernel)).trans rfl
theorem cls_NoneMarked (ns : List Str) (ds : List PD) : f__law_classes [.obj "NoneMarked" ns ds] [] = .ok (.lst (oneAt 20)) [] := (classes_gen (b0 := false) (b1 := false) (b2 := false) (b3 := false) (b4 := false) (b5 := false) (b6 := false) (b7 := false) (b8 := false) (b9 := false) (b10 := false) (b11 := false) (b12 := false) (b13 := false) (b14 := false) (b15 := false) (b16 := false) (b17 := false) (b18 := false) (b19 := false) (b20 := true) (b21 := false) (b22 := false) (b23 := false) (b24 := false) (by decide +kernel) (by decide +kernel) (by decide +kernel) (by decide +kernel) (by decide +kernel) (by decide +kernel) (by decide +kernel) (by decide +kernel) (by decide +kernel) (by decide +kernel) (by decide +kernel) (by decide +kernel) (by decide +kernel) (by decide +kernel) (by decide +kernel) (by decide +kernel) (by decide +kernel) (by decide +kernel) (by decide +kernel) (by decide +kernel) (by decide +kernel) (by decide +kernel) (by decide +kernel) (by decide +kernel) (by decide +kernel)).trans rfl
theorem cls_BadSaying (ns : List Str) (ds : List PD) : f__law_classes [.obj "BadSaying" ns ds] [] = .ok (.lst (oneAt 21)) [] := (classes_gen (b0 := false) (b1 := false) (b2 := false) (b3 := false) (b4 := false) (b5 := false) (b6 := false) (b7 := false) (b8 := false) (b9 := false) (b10 := false) (b11 := false) (b12 := false) (b13 := false) (b14 := false) (b15 := false) (b16 := false) (b17 := false) (b18 := false) (b19 := false) (b20 := false) (b21 := true) (b22 := false) (b23 := false) (b24 := false) (by decide +kernel) (by decide +kernel) (by decide +kernel) (by decide +kernel) (by decide +kernel) (by decide +kernel) (by decide +kernel) (by decide +kernel) (by decide +kernel) (by decide +kernel) (by decide +kernel) (by decide +kernel) (by decide +kernel) (by decide +kernel) (by decide +kernel) (by decide +kernel) (by decide +kernel) (by decide +kernel) (by decide +kernel) (by decide +kernel) (by decide +kernel) (by decide +kernel) (by decide +kernel) (by decide +kernel) (by decide +kernel)).trans rfl
theorem cls_BadPrefix (ns : List Str) (ds : List PD) : f__law_classes [.obj "BadPrefix" ns ds] [] = .ok (.lst (oneAt 22)) [] := (classes_gen (b0 := false) (b1 := false) (b2 := false) (b3 := false) (b4 := false) (b5 := false) (b6 := false) (b7 := false) (b8 := false) (b9 := false) (b10 := false) (b11 := false) (b12 := false) (b13 := false) (b14 := false) (b15 := false) (b16 := false) (b17 := false) (b18 := false) (b19 := false) (b20 := false) (b21 := false) (b22 := true) (b23 := false) (b24 := false) (by decide +kernel) (by decide +kernel) (by decide +kernel) (by decide +kernel) (by decide +kernel) (by decide +kernel) (by decide +kernel) (by decide +kernel) (by decide +kernel) (by decide +kernel) (by decide +kernel) (by decide +kernel) (by decide +kernel) (by decide +kernel) (by decide +kernel) (by decide +kernel) (by decide +kernel) (by decide +kernel) (by decide +kernel) (by decide +kernel) (by decide +kernel) (by decide +kernel) (by decide +kernel) (by decide +kernel) (by decide +kernel)).trans rfl
theorem cls_BadLot (ns : List Str) (ds : List PD) : f__law_classes [.obj "BadLot" ns ds] [] = .ok (.lst (oneAt 23)) [] := (classes_gen (b0 := false) (b1 := false) (b2 := false) (b3 := false) (b4 := false) (b5 := false) (b6 := false) (b7 := false) (b8 := false) (b9 := false) (b10 := false) (b11 := false) (b12 := false) (b13 := false) (b14 := false) (b15 := false) (b16 := false) (b17 := false) (b18 := false) (b19 := false) (b20 := false) (b21 := false) (b22 := false) (b23 := true) (b24 := false) (by decide +kernel) (by decide +kernel) (by decide +kernel) (by decide +kernel) (by decide +kernel) (by decide +kernel) (by decide +kernel) (by decide +kernel) (by decide +kernel) (by decide +kernel) (by decide +kernel) (by decide +kernel) (by decide +kernel) (by decide +kernel) (by decide +kernel) (by decide +kernel) (by decide +kernel) (by decide +kernel) (by decide +kernel) (by decide +kernel) (by decide +kernel) (by decide +kernel) (by decide +kernel) (by decide +kernel) (by decide +kernel)).trans rfl
theorem cls_NoFree (ns : List Str) (ds : List PD) : f__law_classes [.obj "NoFree" ns ds] [] = .ok (.lst (oneAt 24)) [] := (classes_gen (b0 := false) (b1 := false) (b2 := false) (b3 := false) (b4 := false) (b5 := false) (b6 := false) (b7 := false) (b8 := false) (b9 := false) (b10 := false) (b11 := false) (b12 := false) (b13 := false) (b14 := false) (b15 := false) (b16 := false) (b17 := false) (b18 := false) (b19 := false) (b20 := false) (b21 := false) (b22 := false) (b23 := false) (b24 := true) (by decide +kernel) (by decide +kernel) (by decide +kernel) (by decide +kernel) (by decide +kernel) (by decide +kernel) (by decide +kernel) (by decide +kernel) (by decide +kernel) (by decide +kernel) (by decide +kernel) (by decide +kernel) (by decide +kernel) (by decide +kernel) (by decide +kernel) (by decide +kernel) (by decide +kernel) (by decide +kernel) (by decide +kernel) (by decide +kernel) (by decide +kernel) (by decide +kernel) (by decide +kernel) (by decide +kernel) (by decide +kernel)).trans rfl
theorem cls_RootError : f__law_classes [.obj "RootError" [] []] [] = .ok (.lst [.bl false, .bl false, .bl false, .bl false, .bl false, .bl false, .bl false, .bl false, .bl false, .bl false, .bl false, .bl false, .bl false, .bl false, .bl false, .bl false, .bl false, .bl false, .bl false, .bl false, .bl false, .bl false, .bl false, .bl false, .bl false]) [] := classes_gen (by decide +kernel) (by decide +kernel) (by decide +kernel) (by decide +kernel) (by decide +kernel) (by decide +kernel) (by decide +kernel) (by decide +kernel) (by decide +kernel) (by decide +kernel) (by decide +kernel) (by decide +kernel) (by decide +kernel) (by decide +kernel) (by decide +kernel) (by decide +kernel) (by decide +kernel) (by decide +kernel) (by decide +kernel) (by decide +kernel) (by decide +kernel) (by decide +kernel) (by decide +kernel) (by decide +kernel) (by decide +kernel)
theorem raised_eq (at_ to : Int) (w : Str) : f__law_raised [.int at_, .int to, .str w] [] = .ok (.bl true) [] := by
  have m1 : prm_BadText_line_what [PD.int at_, PD.str w] = [.int at_, .str w] := rfl
  have m2 : prm_BadSystem_place_what [PD.int to, PD.str w] = [.str w, .int to] := rfl
  have l1 : List.lookup ("line" : Str) [(("what" : Str), PD.str w), ("line", .int at_)] = some (.int at_) := by simp [List.lookup, ne_lw]
  have l2 : List.lookup ("what" : Str) [(("what" : Str), PD.str w), ("line", .int at_)] = some (.str w) := by simp [List.lookup]
  have l3 : List.lookup ("what" : Str) [(("place" : Str), PD.int to), ("what", .str w)] = some (.str w) := by simp [List.lookup, ne_wp]
  have l4 : List.lookup ("place" : Str) [(("place" : Str), PD.int to), ("what", .str w)] = some (.int to) := by simp [List.lookup]
  simp only [runF, entry, initE, fin, finR, frz_p, frz_ref, frzW_nil, frzW_p, frzW_ref, frzW_map, contN, cont, pds, pds_map, mb, eb, sSeq, sSet, sRet, sRetN, sIf, sNext, sExpr, sBreak, sCont, mVar, mC, mCons, mNil, mTup, fTup, mLst, fLst, mBin, mUn, mCB, mTest, mTru, truF, mAndT, mOrT, mNotT, mAnd, mOr, mNot, mIf, mChain, map_p_nil, map_p_cons, deepV_p, okq_non, okq_bl, okq_int, okq_str, okq_tup, okq_lst, okqs_nil, okqs_cons, fEq_ii, fNe_ii, fEq_ss, fNe_ss, at0, at1, at2, at3, at4, seqOf_tup, seqOf_lst, seqOf_ref, listOf_lst, listOf_ref, fIx_tup, fIx_lst, fIx_ref, ix10, ix20, ix21, ix30, ix31, ix32, ix40, ix41, ix42, ix43, ix50, ix51, ix52, ix53, ix54, ix60, ix61, ix62, ix63, ix64, ix65, ix70, ix71, ix72, ix73, ix74, ix75, ix76, ix80, ix81, ix82, ix83, ix84, ix85, ix86, ix87, fI, fSub, fDiv, fMod, fPow, fNeg, fLt, fLe, fGt, fGe, fOrd, fGcd, fAbs, fInt, fLen, fStr, fIs, fIsNot, DL.isNon, fAdd, fMul, fIsi, tyOfD, tyNm, fAppend, mBM, mBM0, isL, DL.listOf, sSetItem, fSetItem, sPar, sAsg, tgName, tgTup, tgNil, tgCons, kit_ii, kit_bi, kit_ni, kit_si, kit_ti, kit_li, kit_ib, kit_bb, kit_nb, kit_sb, kit_tb, kit_lb, kit_it, kit_bt, kit_nt, kit_st, kit_tt, kit_lt, kit_is, kit_bs, kit_ns, kit_ss, kit_ts, kit_ls, kit_il, kit_bl, kit_nl, kit_sl, kit_tl, kit_ll, mCall, mCallD, callF, pass_nil, pass_p, pass_f, pass_m, callR, nodupB, setCells, yes2, line, range_1, range_2, List.length_cons, List.length_nil, List.getElem?_cons_zero, List.getElem?_cons_succ, List.map_cons, List.map_nil, List.replicate_zero, List.replicate_succ, List.range_zero, List.set_cons_zero, List.set_cons_succ, List.append_nil, List.nil_append, List.cons_append, List.contains_nil, if_true, if_false, ite_true, ite_false, reduceIte, Bool.and_true, Bool.true_and, Bool.not_true, Bool.not_false, Bool.false_and, Bool.and_false, decide_true, decide_false, Nat.reduceLeDiff, Nat.reduceSub, Nat.reduceAdd, Nat.reduceLT, Int.reduceLT, Int.reduceLE, Int.reduceEq, Int.reduceNe, Option.map_some, Option.map_none, Option.bind_some, Option.bind_none, decide_not, ne_eq, not_true_eq_false, not_false_eq_true, reduceCtorEq, and_self, nc0, nc1, nc2, nc3, nc4, nc5, nc6, f__law_raised, m__law_raised, sTryAs, sTryMix, hdl, sRaise, sRaiseK, m1, m2, isA_RootError, isA_NoPoint, isA_BadText, isA_BadTower, isA_BadSystem, isS_BadTower, isS_BadSystem, mIsS, mXf, outAs, outOnly, exitS, List.reverse_cons, List.reverse_nil, List.zip_cons_cons, List.zip_nil_right, l1, l2, l3, l4]
end K00
namespace K00
open PySem PySem.Spec L2 DL
theorem deepVW_map (k : Nat) (s : DS) : ∀ l : List PD, deepVW (deepV k) s (l.map .p) = some l
  | [] => rfl
  | d :: l => by
    rw [List.map_cons]
    show (deepV k s (.p d)).bind _ = _
    rw [deepV_p]
    show ((deepVW (deepV k) s (l.map .p)).map _) = _
    rw [deepVW_map k s l] <;> rfl
theorem deepV_ref {s : DS} {n k : Nat} {l : List PD} (h : s.cells[n]? = some (.lst (l.map .p))) : deepV (k + 1) s (.ref n) = some (.lst l) := by
  unfold deepV
  dsimp only
  rw [h]
  dsimp only
  rw [deepVW_map] <;> rfl
theorem oneAt_okq (k : Nat) : PD.okqs 59 (oneAt k) = true := by
  unfold oneAt
  generalize List.range 25 = r
  induction r with
  | nil => simp only [List.map_nil, okqs_nil]
  | cons i r ih => rw [List.map_cons, okqs_cons, okq_bl, ih] <;> rfl
theorem oneAt_eqv (k : Nat) : PD.eqvs (oneAt k) (oneAt k) = true := by
  unfold oneAt
  generalize List.range 25 = r
  induction r with
  | nil => simp only [List.map_nil, PD.eqvs]
  | cons i r ih => rw [List.map_cons]; simp only [PD.eqvs, PD.eqv, ih, beq_self_eq_true, Bool.and_self]
theorem fNe_one {s : DS} {n k : Nat} (h1 : s.cells[n]? = some (.lst ((oneAt k).map .p))) : fNe (.p (.lst (oneAt k))) (.ref n) s = .ok (.p (.bl false)) s := by
  unfold fNe eqF
  have e2 : deepV fuel s (.ref n) = some (.lst (oneAt k)) := deepV_ref h1
  rw [deepV_p, e2]
  dsimp only
  rw [okq_lst, oneAt_okq]
  simp only [PD.eqv, Bool.and_self, if_true]
  rw [oneAt_eqv] <;> rfl
theorem mCons1 {m : DS → ER D} {S S' : DS} {d : D} (h : m S = .ok d S') : mCons m mNil S = .ok [d] S' := by
  unfold mCons mb
  rw [h] <;> rfl
theorem fLen_ref (n : Nat) (s : DS) : fLen [.ref n] s = match seqOf s (.ref n) with
    | some l => .ok (.p (.int l.length)) s
    | none => .no := by
  unfold fLen
  rfl
section
variable {scr at_ to w r : Option D} {C0 : Cell} {L : List PD} {k : Nat} {c : Str} {ns : List Str} {ds due : List PD}
theorem lenR : ((List.range 25).map fun i : Nat => PD.int (0 + (i : Nat))).length ≤ line := by rw [List.length_map, List.length_range]; unfold line; omega
theorem rngR : rng 0 (Int.toNat 25) = ((List.range 25).map fun i : Nat => PD.int (0 + (i : Nat))).map D.p := by
  unfold rng
  rw [List.map_map]
  exact List.map_congr_left fun i _ => rfl
theorem mb1 {α γ : Type} {m : DS → ER α} {k : α → DS → ER γ} {S S' : DS} {d : α} {o : ER γ} (h : m S = .ok d S') (h2 : k d S' = o) : mb m k S = o := by
  unfold mb
  rw [h]
  exact h2
theorem mTest1 {m : DS → ER D} {S S' : DS} {k : Bool} (h : m S = .ok (.p (.bl k)) S') : mTest m S = .ok k S' := mb1 h rfl
theorem mTruB {m : DS → ER D} {S S' : DS} {k : Bool} (h : m S = .ok (.p (.bl k)) S') : mTru m S = .ok k S' := mb1 h rfl
theorem mOrF {t u : DS → ER Bool} {S S' S2 : DS} {k : Bool} (h : t S = .ok false S') (h2 : u S' = .ok k S2) : mOrT t u S = .ok k S2 := mb1 h h2
theorem mNot1 {t : DS → ER Bool} {S S' : DS} {k : Bool} (h : t S = .ok k S') : mNotT t S = .ok (!k) S' := mb1 h rfl
theorem t3b (S : DS) {p : Prop} (_ : p) : fRng1 [.p (.int 25)] S = .ok (((List.range 25).map fun i : Nat => PD.int (0 + (i : Nat))).map D.p) S := by
  have lim : lim62 25 = true := by decide
  unfold fRng1
  dsimp only
  rw [if_pos lim, rngR]
theorem miR (hL : L.length = 25) (x7 x8 x9 x10 : Option D) (cs : List Cell) : mb (mCons (mCB fLen (mCons (mVar 6) mNil)) mNil) fRng1 ⟨[scr, some (.ref 0), at_, to, w, r, some (.ref 1), x7, x8, x9, x10], C0 :: .lst (L.map .p) :: cs, none⟩ =
    .ok (((List.range 25).map fun i : Nat => PD.int (0 + (i : Nat))).map D.p) ⟨[scr, some (.ref 0), at_, to, w, r, some (.ref 1), x7, x8, x9, x10], C0 :: .lst (L.map .p) :: cs, none⟩ := by
  have lim : lim62 25 = true := by decide
  have hL2 : (((L.length : Nat)) : Int) = 25 := by rw [hL] <;> rfl
  generalize hS : (⟨[scr, some (.ref 0), at_, to, w, r, some (.ref 1), x7, x8, x9, x10], C0 :: .lst (L.map .p) :: cs, none⟩ : DS) = S
  have v0 : mVar 6 S = .ok (.ref 1) S := by subst hS; rfl
  have q0 : seqOf S (.ref 1) = some (L.map .p) := by subst hS; rfl
  have a2 : mCB fLen (mCons (mVar 6) mNil) S = .ok (.p (.int 25)) S := by
    unfold mCB mb
    rw [mCons1 v0]
    show fLen [.ref 1] S = _
    rw [fLen_ref, q0]
    dsimp only
    rw [List.length_map, hL2]
  have e1 : mCons (mCB fLen (mCons (mVar 6) mNil)) mNil S = .ok [.p (.int 25)] S := mCons1 a2
  exact mb1 e1 (t3b S hS)
theorem l1_eq (hL : L.length = 25) (x8 x9 : Option D) (cs : List Cell) : l1_law ⟨[scr, some (.ref 0), at_, to, w, r, some (.ref 1), some (.p (.int (k : Int))), x8, x9, none], C0 :: .lst (L.map .p) :: cs, none⟩ =
    .ok (.ref (2 + cs.length)) ⟨[scr, some (.ref 0), at_, to, w, r, some (.ref 1), some (.p (.int (k : Int))), x8, x9, none], C0 :: .lst (L.map .p) :: (cs ++ [.lst ((oneAt k).map .p)]), none⟩ := by
  have h := mLc_map (f := tgName 10) (e := e1_law) (vs := [10]) (g := fun d => match d with
      | .int i => .bl (decide ((k : Int) = i))
      | _ => .non) (miR (scr := scr) (at_ := at_) (to := to) (w := w) (r := r) (C0 := C0) hL (some (.p (.int (k : Int)))) x8 x9 none cs) rfl (by
      intro d hd acc
      obtain ⟨i, _, rfl⟩ := List.mem_map.mp hd
      refine ⟨[scr, some (.ref 0), at_, to, w, r, some (.ref 1), some (.p (.int (k : Int))), x8, x9, some (.p (.int (0 + (i : Nat))))], [scr, some (.ref 0), at_, to, w, r, some (.ref 1), some (.p (.int (k : Int))), x8, x9, some (.p (.int (0 + (i : Nat))))], rfl, ?_⟩
      simp only [runF, entry, initE, fin, finR, frz_p, frz_ref, frzW_nil, frzW_p, frzW_ref, frzW_map, contN, cont, pds, pds_map, mb, eb, sSeq, sSet, sRet, sRetN, sIf, sNext, sExpr, sBreak, sCont, mVar, mC, mCons, mNil, mTup, fTup, mLst, fLst, mBin, mUn, mCB, mTest, mTru, truF, mAndT, mOrT, mNotT, mAnd, mOr, mNot, mIf, mChain, map_p_nil, map_p_cons, deepV_p, okq_non, okq_bl, okq_int, okq_str, okq_tup, okq_lst, okqs_nil, okqs_cons, fEq_ii, fNe_ii, fEq_ss, fNe_ss, at0, at1, at2, at3, at4, seqOf_tup, seqOf_lst, seqOf_ref, listOf_lst, listOf_ref, fIx_tup, fIx_lst, fIx_ref, ix10, ix20, ix21, ix30, ix31, ix32, ix40, ix41, ix42, ix43, ix50, ix51, ix52, ix53, ix54, ix60, ix61, ix62, ix63, ix64, ix65, ix70, ix71, ix72, ix73, ix74, ix75, ix76, ix80, ix81, ix82, ix83, ix84, ix85, ix86, ix87, fI, fSub, fDiv, fMod, fPow, fNeg, fLt, fLe, fGt, fGe, fOrd, fGcd, fAbs, fInt, fLen, fStr, fIs, fIsNot, DL.isNon, fAdd, fMul, fIsi, tyOfD, tyNm, fAppend, mBM, mBM0, isL, DL.listOf, sSetItem, fSetItem, sPar, sAsg, tgName, tgTup, tgNil, tgCons, kit_ii, kit_bi, kit_ni, kit_si, kit_ti, kit_li, kit_ib, kit_bb, kit_nb, kit_sb, kit_tb, kit_lb, kit_it, kit_bt, kit_nt, kit_st, kit_tt, kit_lt, kit_is, kit_bs, kit_ns, kit_ss, kit_ts, kit_ls, kit_il, kit_bl, kit_nl, kit_sl, kit_tl, kit_ll, mCall, mCallD, callF, pass_nil, pass_p, pass_f, pass_m, callR, nodupB, setCells, yes2, line, range_1, range_2, List.length_cons, List.length_nil, List.getElem?_cons_zero, List.getElem?_cons_succ, List.map_cons, List.map_nil, List.replicate_zero, List.replicate_succ, List.range_zero, List.set_cons_zero, List.set_cons_succ, List.append_nil, List.nil_append, List.cons_append, List.contains_nil, if_true, if_false, ite_true, ite_false, reduceIte, Bool.and_true, Bool.true_and, Bool.not_true, Bool.not_false, Bool.false_and, Bool.and_false, decide_true, decide_false, Nat.reduceLeDiff, Nat.reduceSub, Nat.reduceAdd, Nat.reduceLT, Int.reduceLT, Int.reduceLE, Int.reduceEq, Int.reduceNe, Option.map_some, Option.map_none, Option.bind_some, Option.bind_none, decide_not, ne_eq, not_true_eq_false, not_false_eq_true, reduceCtorEq, and_self, nc0, nc1, nc2, nc3, nc4, nc5, nc6, e1_law]) lenR
  have e1 : ((List.range 25).map fun i : Nat => PD.int (0 + (i : Nat))).map (fun d => match d with
      | .int i => PD.bl (decide ((k : Int) = i))
      | _ => .non) = oneAt k := by
    unfold oneAt
    rw [List.map_map]
    refine List.map_congr_left fun i _ => ?_
    show PD.bl (decide ((k : Int) = 0 + (i : Nat))) = _
    rw [Int.zero_add]
  rw [e1] at h
  have e2 : (C0 :: Cell.lst (L.map .p) :: cs).length = 2 + cs.length := by rw [List.length_cons, List.length_cons]; omega
  rw [e2] at h
  exact h
theorem step_eq (hL : L.length = 25) (hr : L[k]? = some (row c ns ds due)) (ok : PD.okqs 59 due = true) (nb : PD.nbs due = true) (hc : f__law_classes [.obj c ns ds] [] = .ok (.lst (oneAt k)) [])
    (v1 : isV_RootError c = some true) (v2 : isV_ValueError c = some true) (v3 : isV_LookupError c = some false) (v4 : isV_ArithmeticError c = some false) (x8 x9 : Option D) (cs : List Cell) :
    b1_law ⟨[scr, some (.ref 0), at_, to, w, r, some (.ref 1), some (.p (.int (k : Int))), x8, x9, none], C0 :: .lst (L.map .p) :: cs, none⟩ = .nx ⟨[scr, some (.ref 0), at_, to, w, r, some (.ref 1), some (.p (.int (k : Int))), some (.p (.obj c ns ds)), x9, none], C0 :: .lst (L.map .p) :: (cs ++ [.lst ((oneAt k).map .p)]), none⟩ := by
  have ha : atI (L.map D.p) (k : Int) = some (.p (row c ns ds due)) := atNat (by rw [List.getElem?_map, hr] <;> rfl)
  have hn : ∀ s, fNe (.p (.lst due)) (.p (.lst due)) s = .ok (.p (.bl false)) s := fun s => fNe_same _ _ (by rw [okq_lst]; exact ok) (by simp only [PD.nb]; exact nb)
  have l1 := l1_eq (scr := scr) (at_ := at_) (to := to) (w := w) (r := r) (C0 := C0) (k := k) hL (some (.p (.obj c ns ds))) x9 cs
  have hg : (C0 :: Cell.lst (L.map D.p) :: (cs ++ [.lst ((oneAt k).map .p)]))[2 + cs.length]? = some (.lst ((oneAt k).map .p)) := by
    rw [show 2 + cs.length = cs.length + 1 + 1 by omega, List.getElem?_cons_succ, List.getElem?_cons_succ]; exact at_last
  have h1 := fNe_one (s := ⟨[scr, some (.ref 0), at_, to, w, r, some (.ref 1), some (.p (.int (k : Int))), some (.p (.obj c ns ds)), x9, none], C0 :: .lst (L.map .p) :: (cs ++ [.lst ((oneAt k).map .p)]), none⟩) (n := 2 + cs.length) (k := k) hg
  have hx : ∀ (x8 : Option D) (cs : List Cell), mBin fIx (mVar 6) (mVar 7) ⟨[scr, some (.ref 0), at_, to, w, r, some (.ref 1), some (.p (.int (k : Int))), x8, x9, none], C0 :: .lst (L.map .p) :: cs, none⟩ = .ok (.p (row c ns ds due)) ⟨[scr, some (.ref 0), at_, to, w, r, some (.ref 1), some (.p (.int (k : Int))), x8, x9, none], C0 :: .lst (L.map .p) :: cs, none⟩ := fun x8 cs => by
    generalize hS : (⟨[scr, some (.ref 0), at_, to, w, r, some (.ref 1), some (.p (.int (k : Int))), x8, x9, none], C0 :: .lst (L.map .p) :: cs, none⟩ : DS) = S
    have a1 : mVar 6 S = .ok (.ref 1) S := by subst hS; rfl
    have a2 : mVar 7 S = .ok (.p (.int (k : Int))) S := by subst hS; rfl
    have q0 : seqOf S (.ref 1) = some (L.map .p) := by subst hS; rfl
    unfold mBin
    refine mb1 a1 (mb1 a2 ?_)
    rw [fIx_ref, q0]
    dsimp only
    rw [ha]
  have g0 : ∀ s, fIx (.p (row c ns ds due)) (.p (.int 0)) s = .ok (.p (.obj c ns ds)) s := fun s => by unfold row; rw [fIx_tup, List.map_cons, at0]
  have g1 : ∀ s, fIx (.p (row c ns ds due)) (.p (.int 1)) s = .ok (.p (.lst due)) s := fun s => by unfold row; rw [fIx_tup, List.map_cons, List.map_cons, at1]
  have g2 : ∀ s, fIx (.p (row c ns ds due)) (.p (.int 2)) s = .ok (.p (.lst due)) s := fun s => by unfold row; rw [fIx_tup, List.map_cons, List.map_cons, List.map_cons, at2]
  have u0 : ∀ (x8 : Option D) (cs : List Cell), mBin fIx (mBin fIx (mVar 6) (mVar 7)) (mC (.int 0)) ⟨[scr, some (.ref 0), at_, to, w, r, some (.ref 1), some (.p (.int (k : Int))), x8, x9, none], C0 :: .lst (L.map .p) :: cs, none⟩ = .ok (.p (.obj c ns ds)) ⟨[scr, some (.ref 0), at_, to, w, r, some (.ref 1), some (.p (.int (k : Int))), x8, x9, none], C0 :: .lst (L.map .p) :: cs, none⟩ := fun x8 cs => mb1 (hx x8 cs) (mb1 rfl (g0 _))
  have u1 : ∀ (x8 : Option D) (cs : List Cell), mBin fIx (mBin fIx (mVar 6) (mVar 7)) (mC (.int 1)) ⟨[scr, some (.ref 0), at_, to, w, r, some (.ref 1), some (.p (.int (k : Int))), x8, x9, none], C0 :: .lst (L.map .p) :: cs, none⟩ = .ok (.p (.lst due)) ⟨[scr, some (.ref 0), at_, to, w, r, some (.ref 1), some (.p (.int (k : Int))), x8, x9, none], C0 :: .lst (L.map .p) :: cs, none⟩ := fun x8 cs => mb1 (hx x8 cs) (mb1 rfl (g1 _))
  have u2 : ∀ (x8 : Option D) (cs : List Cell), mBin fIx (mBin fIx (mVar 6) (mVar 7)) (mC (.int 2)) ⟨[scr, some (.ref 0), at_, to, w, r, some (.ref 1), some (.p (.int (k : Int))), x8, x9, none], C0 :: .lst (L.map .p) :: cs, none⟩ = .ok (.p (.lst due)) ⟨[scr, some (.ref 0), at_, to, w, r, some (.ref 1), some (.p (.int (k : Int))), x8, x9, none], C0 :: .lst (L.map .p) :: cs, none⟩ := fun x8 cs => mb1 (hx x8 cs) (mb1 rfl (g2 _))
  refine seq_nx (s1 := ⟨[scr, some (.ref 0), at_, to, w, r, some (.ref 1), some (.p (.int (k : Int))), some (.p (.obj c ns ds)), x9, none], C0 :: .lst (L.map .p) :: cs, none⟩) (by unfold sSet eb; rw [u0] <;> rfl) ?_
  have w8 : ∀ (tab : Str → Option Bool) (b : Bool), tab c = some b → mb (mVar 8) (fIsV tab) (⟨[scr, some (.ref 0), at_, to, w, r, some (.ref 1), some (.p (.int (k : Int))), some (.p (.obj c ns ds)), x9, none], C0 :: .lst (L.map .p) :: cs, none⟩ : DS) = .ok (.p (.bl b)) (⟨[scr, some (.ref 0), at_, to, w, r, some (.ref 1), some (.p (.int (k : Int))), some (.p (.obj c ns ds)), x9, none], C0 :: .lst (L.map .p) :: cs, none⟩ : DS) := fun tab b hb => mb1 (S' := (⟨[scr, some (.ref 0), at_, to, w, r, some (.ref 1), some (.p (.int (k : Int))), some (.p (.obj c ns ds)), x9, none], C0 :: .lst (L.map .p) :: cs, none⟩ : DS)) (d := .p (.obj c ns ds)) rfl (by unfold fIsV; dsimp only; rw [hb])
  refine seq_nx (s1 := (⟨[scr, some (.ref 0), at_, to, w, r, some (.ref 1), some (.p (.int (k : Int))), some (.p (.obj c ns ds)), x9, none], C0 :: .lst (L.map .p) :: cs, none⟩ : DS)) (if_f (s1 := (⟨[scr, some (.ref 0), at_, to, w, r, some (.ref 1), some (.p (.int (k : Int))), some (.p (.obj c ns ds)), x9, none], C0 :: .lst (L.map .p) :: cs, none⟩ : DS)) (mOrF (mTest1 (mb1 (u1 _ _) (mb1 (u2 _ _) (hn _)))) (mOrF (mNot1 (mTruB (w8 _ _ v1))) (mNot1 (mTruB (w8 _ _ v2))))) rfl) ?_
  refine seq_nx (s1 := (⟨[scr, some (.ref 0), at_, to, w, r, some (.ref 1), some (.p (.int (k : Int))), some (.p (.obj c ns ds)), x9, none], C0 :: .lst (L.map .p) :: cs, none⟩ : DS)) (if_f (s1 := (⟨[scr, some (.ref 0), at_, to, w, r, some (.ref 1), some (.p (.int (k : Int))), some (.p (.obj c ns ds)), x9, none], C0 :: .lst (L.map .p) :: cs, none⟩ : DS)) (mOrF (mTruB (w8 _ _ v3)) (mTruB (w8 _ _ v4))) rfl) ?_
  have cl : mCall [false] f__law_classes (mCons (mVar 8) mNil) (⟨[scr, some (.ref 0), at_, to, w, r, some (.ref 1), some (.p (.int (k : Int))), some (.p (.obj c ns ds)), x9, none], C0 :: .lst (L.map .p) :: cs, none⟩ : DS) = .ok (.p (.lst (oneAt k))) (⟨[scr, some (.ref 0), at_, to, w, r, some (.ref 1), some (.p (.int (k : Int))), some (.p (.obj c ns ds)), x9, none], C0 :: .lst (L.map .p) :: cs, none⟩ : DS) := by
    refine mb1 (mCons1 (S' := (⟨[scr, some (.ref 0), at_, to, w, r, some (.ref 1), some (.p (.int (k : Int))), some (.p (.obj c ns ds)), x9, none], C0 :: .lst (L.map .p) :: cs, none⟩ : DS)) (d := .p (.obj c ns ds)) rfl) ?_
    rw [callF_pure (xs := [.obj c ns ds]) (s' := (⟨[scr, some (.ref 0), at_, to, w, r, some (.ref 1), some (.p (.int (k : Int))), some (.p (.obj c ns ds)), x9, none], C0 :: .lst (L.map .p) :: cs, none⟩ : DS)) rfl, hc] <;> rfl
  exact if_f (mTest1 (mb1 cl (mb1 l1 h1))) rfl
end
end K00
namespace K00
open PySem PySem.Spec L2 DL
theorem rng_cons (lo : Int) (m : Nat) : rng lo (m + 1) = .p (.int lo) :: rng (lo + 1) m := by
  unfold rng
  rw [List.range_succ_eq_map, List.map_cons, List.map_map]
  refine congr (congrArg List.cons ?_) (List.map_congr_left fun i _ => ?_)
  · show D.p (.int (lo + ((0 : Nat) : Int))) = _
    rw [show lo + ((0 : Nat) : Int) = lo by omega]
  · show D.p (.int (lo + ((i + 1 : Nat) : Int))) = _
    rw [show lo + ((i + 1 : Nat) : Int) = lo + 1 + (i : Int) by omega]
def allRows (at_ to : Int) (w : Str) (r : PD) : List PD := firsts at_ to w r ++ seconds at_ to w r
theorem rows {at_ to : Int} {w : Str} {r : PD} (hw : PyData.strOk w = true) (hr : r.okq 59 = true) (hn : r.nb = true) : ∀ k, k < 25 → ∃ c ns ds due, (allRows at_ to w r)[k]? = some (row c ns ds due) ∧ PD.okqs 59 due = true ∧ PD.nbs due = true ∧
    f__law_classes [.obj c ns ds] [] = .ok (.lst (oneAt k)) [] ∧ isV_RootError c = some true ∧ isV_ValueError c = some true ∧ isV_LookupError c = some false ∧ isV_ArithmeticError c = some false
  | 0, _ => ⟨"BadRatio", _, _, _, rfl, by simp only [okqs_cons, okqs_nil, okq_int, okq_str, hw, hr, Bool.and_self], by simp only [PD.nbs, PD.nb, hn, Bool.and_self], cls_BadRatio _ _, by decide +kernel, by decide +kernel, by decide +kernel, by decide +kernel⟩
  | 1, _ => ⟨"DividedByNought", _, _, _, rfl, by simp only [okqs_cons, okqs_nil, okq_int, okq_str, hw, hr, Bool.and_self], by simp only [PD.nbs, PD.nb, hn, Bool.and_self], cls_DividedByNought _ _, by decide +kernel, by decide +kernel, by decide +kernel, by decide +kernel⟩
  | 2, _ => ⟨"Pole", _, _, _, rfl, by simp only [okqs_cons, okqs_nil, okq_int, okq_str, hw, hr, Bool.and_self], by simp only [PD.nbs, PD.nb, hn, Bool.and_self], cls_Pole _ _, by decide +kernel, by decide +kernel, by decide +kernel, by decide +kernel⟩
  | 3, _ => ⟨"BadElement", _, _, _, rfl, by simp only [okqs_cons, okqs_nil, okq_int, okq_str, hw, hr, Bool.and_self], by simp only [PD.nbs, PD.nb, hn, Bool.and_self], cls_BadElement _ _, by decide +kernel, by decide +kernel, by decide +kernel, by decide +kernel⟩
  | 4, _ => ⟨"BadText", _, _, _, rfl, by simp only [okqs_cons, okqs_nil, okq_int, okq_str, hw, hr, Bool.and_self], by simp only [PD.nbs, PD.nb, hn, Bool.and_self], cls_BadText _ _, by decide +kernel, by decide +kernel, by decide +kernel, by decide +kernel⟩
  | 5, _ => ⟨"BadTower", _, _, _, rfl, by simp only [okqs_cons, okqs_nil, okq_int, okq_str, hw, hr, Bool.and_self], by simp only [PD.nbs, PD.nb, hn, Bool.and_self], cls_BadTower _ _, by decide +kernel, by decide +kernel, by decide +kernel, by decide +kernel⟩
  | 6, _ => ⟨"NoPlace", _, _, _, rfl, by simp only [okqs_cons, okqs_nil, okq_int, okq_str, hw, hr, Bool.and_self], by simp only [PD.nbs, PD.nb, hn, Bool.and_self], cls_NoPlace _ _, by decide +kernel, by decide +kernel, by decide +kernel, by decide +kernel⟩
  | 7, _ => ⟨"NoLetter", _, _, _, rfl, by simp only [okqs_cons, okqs_nil, okq_int, okq_str, hw, hr, Bool.and_self], by simp only [PD.nbs, PD.nb, hn, Bool.and_self], cls_NoLetter _ _, by decide +kernel, by decide +kernel, by decide +kernel, by decide +kernel⟩
  | 8, _ => ⟨"BadSystem", _, _, _, rfl, by simp only [okqs_cons, okqs_nil, okq_int, okq_str, hw, hr, Bool.and_self], by simp only [PD.nbs, PD.nb, hn, Bool.and_self], cls_BadSystem _ _, by decide +kernel, by decide +kernel, by decide +kernel, by decide +kernel⟩
  | 9, _ => ⟨"TooMany", _, _, _, rfl, by simp only [okqs_cons, okqs_nil, okq_int, okq_str, hw, hr, Bool.and_self], by simp only [PD.nbs, PD.nb, hn, Bool.and_self], cls_TooMany _ _, by decide +kernel, by decide +kernel, by decide +kernel, by decide +kernel⟩
  | 10, _ => ⟨"OtherLetters", _, _, _, rfl, by simp only [okqs_cons, okqs_nil, okq_int, okq_str, hw, hr, Bool.and_self], by simp only [PD.nbs, PD.nb, hn, Bool.and_self], cls_OtherLetters _ _, by decide +kernel, by decide +kernel, by decide +kernel, by decide +kernel⟩
  | 11, _ => ⟨"NotMonic", _, _, _, rfl, by simp only [okqs_cons, okqs_nil, okq_int, okq_str, hw, hr, Bool.and_self], by simp only [PD.nbs, PD.nb, hn, Bool.and_self], cls_NotMonic _ _, by decide +kernel, by decide +kernel, by decide +kernel, by decide +kernel⟩
  | 12, _ => ⟨"ZeroNote", _, _, _, rfl, by simp only [okqs_cons, okqs_nil, okq_int, okq_str, hw, hr, Bool.and_self], by simp only [PD.nbs, PD.nb, hn, Bool.and_self], cls_ZeroNote _ _, by decide +kernel, by decide +kernel, by decide +kernel, by decide +kernel⟩
  | 13, _ => ⟨"HasFree", _, _, _, rfl, by simp only [okqs_cons, okqs_nil, okq_int, okq_str, hw, hr, Bool.and_self], by simp only [PD.nbs, PD.nb, hn, Bool.and_self], cls_HasFree _ _, by decide +kernel, by decide +kernel, by decide +kernel, by decide +kernel⟩
  | 14, _ => ⟨"BadProgram", _, _, _, rfl, by simp only [okqs_cons, okqs_nil, okq_int, okq_str, hw, hr, Bool.and_self], by simp only [PD.nbs, PD.nb, hn, Bool.and_self], cls_BadProgram _ _, by decide +kernel, by decide +kernel, by decide +kernel, by decide +kernel⟩
  | 15, _ => ⟨"BadPoint", _, _, _, rfl, by simp only [okqs_cons, okqs_nil, okq_int, okq_str, hw, hr, Bool.and_self], by simp only [PD.nbs, PD.nb, hn, Bool.and_self], cls_BadPoint _ _, by decide +kernel, by decide +kernel, by decide +kernel, by decide +kernel⟩
  | 16, _ => ⟨"LackingLetter", _, _, _, rfl, by simp only [okqs_cons, okqs_nil, okq_int, okq_str, hw, hr, Bool.and_self], by simp only [PD.nbs, PD.nb, hn, Bool.and_self], cls_LackingLetter _ _, by decide +kernel, by decide +kernel, by decide +kernel, by decide +kernel⟩
  | 17, _ => ⟨"NoPoint", _, _, _, rfl, by simp only [okqs_cons, okqs_nil, okq_int, okq_str, hw, hr, Bool.and_self], by simp only [PD.nbs, PD.nb, hn, Bool.and_self], cls_NoPoint _ _, by decide +kernel, by decide +kernel, by decide +kernel, by decide +kernel⟩
  | 18, _ => ⟨"NotOne", _, _, _, rfl, by simp only [okqs_cons, okqs_nil, okq_int, okq_str, hw, hr, Bool.and_self], by simp only [PD.nbs, PD.nb, hn, Bool.and_self], cls_NotOne _ _, by decide +kernel, by decide +kernel, by decide +kernel, by decide +kernel⟩
  | 19, _ => ⟨"NoMark", _, _, _, rfl, by simp only [okqs_cons, okqs_nil, okq_int, okq_str, hw, hr, Bool.and_self], by simp only [PD.nbs, PD.nb, hn, Bool.and_self], cls_NoMark _ _, by decide +kernel, by decide +kernel, by decide +kernel, by decide +kernel⟩
  | 20, _ => ⟨"NoneMarked", _, _, _, rfl, by simp only [okqs_cons, okqs_nil, okq_int, okq_str, hw, hr, Bool.and_self], by simp only [PD.nbs, PD.nb, hn, Bool.and_self], cls_NoneMarked _ _, by decide +kernel, by decide +kernel, by decide +kernel, by decide +kernel⟩
  | 21, _ => ⟨"BadSaying", _, _, _, rfl, by simp only [okqs_cons, okqs_nil, okq_int, okq_str, hw, hr, Bool.and_self], by simp only [PD.nbs, PD.nb, hn, Bool.and_self], cls_BadSaying _ _, by decide +kernel, by decide +kernel, by decide +kernel, by decide +kernel⟩
  | 22, _ => ⟨"BadPrefix", _, _, _, rfl, by simp only [okqs_cons, okqs_nil, okq_int, okq_str, hw, hr, Bool.and_self], by simp only [PD.nbs, PD.nb, hn, Bool.and_self], cls_BadPrefix _ _, by decide +kernel, by decide +kernel, by decide +kernel, by decide +kernel⟩
  | 23, _ => ⟨"BadLot", _, _, _, rfl, by simp only [okqs_cons, okqs_nil, okq_int, okq_str, hw, hr, Bool.and_self], by simp only [PD.nbs, PD.nb, hn, Bool.and_self], cls_BadLot _ _, by decide +kernel, by decide +kernel, by decide +kernel, by decide +kernel⟩
  | 24, _ => ⟨"NoFree", _, _, _, rfl, by simp only [okqs_cons, okqs_nil, okq_int, okq_str, hw, hr, Bool.and_self], by simp only [PD.nbs, PD.nb, hn, Bool.and_self], cls_NoFree _ _, by decide +kernel, by decide +kernel, by decide +kernel, by decide +kernel⟩
  | n + 25, h => absurd h (by omega)
theorem all_loop {scr : Option D} {at_ to : Int} {w : Str} {r : PD} {C0 : Cell} {x9 : Option D} (hw : PyData.strOk w = true) (hr : r.okq 59 = true) (hn : r.nb = true) : ∀ (m k : Nat) (cs : List Cell) (x7 x8 : Option D), k + m = 25 → ∃ x7' x8' cs',
    loop (tgName 7) b1_law (rng (k : Int) m) ⟨[scr, some (.ref 0), some (.p (.int at_)), some (.p (.int to)), some (.p (.str w)), some (.p r), some (.ref 1), x7, x8, x9, none], C0 :: .lst ((allRows at_ to w r).map .p) :: cs, none⟩ =
      .nx ⟨[scr, some (.ref 0), some (.p (.int at_)), some (.p (.int to)), some (.p (.str w)), some (.p r), some (.ref 1), x7', x8', x9, none], C0 :: .lst ((allRows at_ to w r).map .p) :: cs', none⟩
  | 0, k, cs, x7, x8, _ => ⟨x7, x8, cs, rfl⟩
  | m + 1, k, cs, x7, x8, h => by
    obtain ⟨c, ns, ds, due, a1, a2, a3, a4, a5, a6, a7, a8⟩ := rows (at_ := at_) (to := to) hw hr hn k (by omega)
    obtain ⟨x7', x8', cs', ih⟩ := all_loop hw hr hn m (k + 1) (cs ++ [.lst ((oneAt k).map .p)]) (some (.p (.int (k : Int)))) (some (.p (.obj c ns ds))) (by omega)
    refine ⟨x7', x8', cs', ?_⟩
    rw [rng_cons]
    refine (loop_nx rfl (step_eq (by unfold allRows; rw [List.length_append] <;> rfl) a1 a2 a3 a4 a5 a6 a7 a8 x8 x9 cs)).trans ?_
    have e : (k : Int) + 1 = ((k + 1 : Nat) : Int) := by omega
    rw [e]
    exact ih
end K00
namespace K00
open PySem PySem.Spec L2 DL
theorem ex_seq {m n : DS → SR} {x : D} {s s1 : DS} (h : m s = .nx s1) (k : ∃ s', n s1 = .rt x s') : ∃ s', sSeq m n s = .rt x s' := by
  obtain ⟨s', k⟩ := k
  exact ⟨s', seq_nx h k⟩
theorem okq_rat (n : Nat) (p : Int × Int) : (rat p).okq (n + 1) = true := by
  unfold rat
  rw [okq_tup, okqs_cons, okqs_cons, okq_int, okq_int, okqs_nil] <;> rfl
theorem nb_rat (p : Int × Int) : (rat p).nb = true := by simp [rat, PD.nb, PD.nbs]
abbrev S (ns : List Int) (a b c d e o7 o8 o9 : Option D) (cs : List Cell) : DS := ⟨[some (.p (.lst (ns.map .int))), some (.ref 0), a, b, c, d, e, o7, o8, o9, none], cs, none⟩
abbrev I (i : Int) : Option D := some (.p (.int i))
/-- the first cell's number, cut, with its sign -/
def cut (n : Int) : Int := ((n.natAbs : Int).fmod ((((10 : Int) ^ 50 * 10 ^ 50) * 10 ^ 50) * 10 ^ 50)) * (if n < 0 then -1 else 1)
theorem cls_root : f__law_classes [.obj "RootError" [] []] [] = .ok (.lst (List.replicate 25 (.bl false))) [] := (classes_gen (b0 := false) (b1 := false) (b2 := false) (b3 := false) (b4 := false) (b5 := false) (b6 := false) (b7 := false) (b8 := false) (b9 := false) (b10 := false) (b11 := false) (b12 := false) (b13 := false) (b14 := false) (b15 := false) (b16 := false) (b17 := false) (b18 := false) (b19 := false) (b20 := false) (b21 := false) (b22 := false) (b23 := false) (b24 := false) (by decide +kernel) (by decide +kernel) (by decide +kernel) (by decide +kernel) (by decide +kernel) (by decide +kernel) (by decide +kernel) (by decide +kernel) (by decide +kernel) (by decide +kernel) (by decide +kernel) (by decide +kernel) (by decide +kernel) (by decide +kernel) (by decide +kernel) (by decide +kernel) (by decide +kernel) (by decide +kernel) (by decide +kernel) (by decide +kernel) (by decide +kernel) (by decide +kernel) (by decide +kernel) (by decide +kernel) (by decide +kernel))
theorem at_step (ns : List Int) (a : Int) (c : Cell) : ∃ a', (sIf (mTest (mBin fGt (mCB fLen (mCons (mVar 0) mNil)) (mC (.int 0)))) (sSet 2 (mBin fMul (mBin fMod (mCB fInt (mCons (mCB fAbs (mCons (mCB fInt (mCons (mBin fIx (mVar 0) (mC (.int 0))) mNil)) mNil)) mNil)) (mBin fMul (mBin fMul (mBin fMul (mBin fPow (mC (.int 10)) (mC (.int 50))) (mBin fPow (mC (.int 10)) (mC (.int 50)))) (mBin fPow (mC (.int 10)) (mC (.int 50)))) (mBin fPow (mC (.int 10)) (mC (.int 50))))) (mIf (mTest (mBin fLt (mCB fInt (mCons (mBin fIx (mVar 0) (mC (.int 0))) mNil)) (mC (.int 0)))) (mUn fNeg (mC (.int 1))) (mC (.int 1))))) sNext) (S ns (I a) none none none none none none none [c]) = .nx (S ns (I a') none none none none none none none [c]) := by
  cases ns with
  | nil => exact ⟨a, by simp only [runF, entry, initE, fin, finR, frz_p, frz_ref, frzW_nil, frzW_p, frzW_ref, frzW_map, contN, cont, pds, pds_map, mb, eb, sSeq, sSet, sRet, sRetN, sIf, sNext, sExpr, sBreak, sCont, mVar, mC, mCons, mNil, mTup, fTup, mLst, fLst, mBin, mUn, mCB, mTest, mTru, truF, mAndT, mOrT, mNotT, mAnd, mOr, mNot, mIf, mChain, map_p_nil, map_p_cons, deepV_p, okq_non, okq_bl, okq_int, okq_str, okq_tup, okq_lst, okqs_nil, okqs_cons, fEq_ii, fNe_ii, fEq_ss, fNe_ss, at0, at1, at2, at3, at4, seqOf_tup, seqOf_lst, seqOf_ref, listOf_lst, listOf_ref, fIx_tup, fIx_lst, fIx_ref, ix10, ix20, ix21, ix30, ix31, ix32, ix40, ix41, ix42, ix43, ix50, ix51, ix52, ix53, ix54, ix60, ix61, ix62, ix63, ix64, ix65, ix70, ix71, ix72, ix73, ix74, ix75, ix76, ix80, ix81, ix82, ix83, ix84, ix85, ix86, ix87, fI, fSub, fDiv, fMod, fPow, fNeg, fLt, fLe, fGt, fGe, fOrd, fGcd, fAbs, fInt, fLen, fStr, fIs, fIsNot, DL.isNon, fAdd, fMul, fIsi, tyOfD, tyNm, fAppend, mBM, mBM0, isL, DL.listOf, sSetItem, fSetItem, sPar, sAsg, tgName, tgTup, tgNil, tgCons, kit_ii, kit_bi, kit_ni, kit_si, kit_ti, kit_li, kit_ib, kit_bb, kit_nb, kit_sb, kit_tb, kit_lb, kit_it, kit_bt, kit_nt, kit_st, kit_tt, kit_lt, kit_is, kit_bs, kit_ns, kit_ss, kit_ts, kit_ls, kit_il, kit_bl, kit_nl, kit_sl, kit_tl, kit_ll, mCall, mCallD, callF, pass_nil, pass_p, pass_f, pass_m, callR, nodupB, setCells, yes2, line, range_1, range_2, List.length_cons, List.length_nil, List.getElem?_cons_zero, List.getElem?_cons_succ, List.map_cons, List.map_nil, List.replicate_zero, List.replicate_succ, List.range_zero, List.set_cons_zero, List.set_cons_succ, List.append_nil, List.nil_append, List.cons_append, List.contains_nil, if_true, if_false, ite_true, ite_false, reduceIte, Bool.and_true, Bool.true_and, Bool.not_true, Bool.not_false, Bool.false_and, Bool.and_false, decide_true, decide_false, Nat.reduceLeDiff, Nat.reduceSub, Nat.reduceAdd, Nat.reduceLT, Int.reduceLT, Int.reduceLE, Int.reduceEq, Int.reduceNe, Option.map_some, Option.map_none, Option.bind_some, Option.bind_none, decide_not, ne_eq, not_true_eq_false, not_false_eq_true, reduceCtorEq, and_self, nc0, nc1, nc2, nc3, nc4, nc5, nc6, S, I]⟩
  | cons n ns =>
    have hp : (0 : Int) < (((List.map PD.int (n :: ns)).length : Nat) : Int) := by rw [List.length_map, List.length_cons]; omega
    have hp2 : (0 : Int) < (((List.map D.p (List.map PD.int ns)).length + 1 : Nat) : Int) := by omega
    have p1 : powC 10 50 = true := by decide
    have b1 : bigC ((10 : Int) ^ Int.toNat 50) ((10 : Int) ^ Int.toNat 50) = true := by decide +kernel
    have b2 : bigC ((10 : Int) ^ Int.toNat 50 * (10 : Int) ^ Int.toNat 50) ((10 : Int) ^ Int.toNat 50) = true := by decide +kernel
    have b3 : bigC ((10 : Int) ^ Int.toNat 50 * (10 : Int) ^ Int.toNat 50 * (10 : Int) ^ Int.toNat 50) ((10 : Int) ^ Int.toNat 50) = true := by decide +kernel
    have n0 : ((10 : Int) ^ Int.toNat 50 * (10 : Int) ^ Int.toNat 50 * (10 : Int) ^ Int.toNat 50 * (10 : Int) ^ Int.toNat 50) ≠ 0 := by decide +kernel
    generalize hM : ((10 : Int) ^ Int.toNat 50 * (10 : Int) ^ Int.toNat 50 * (10 : Int) ^ Int.toNat 50 * (10 : Int) ^ Int.toNat 50) = M at n0
    have sM : Sm 1000 M := by subst hM; unfold Sm; decide +kernel
    have sx (x : Int) : Sm 1000 (x.fmod M) := by
      unfold Sm at sM ⊢
      have h0 : 0 < M := by subst hM; decide +kernel
      have h1 := Int.fmod_nonneg_of_pos x h0
      have h2 := Int.fmod_lt_of_pos x h0
      omega
    have b4 (x : Int) : bigC (x.fmod M) 1 = true := bigC_of (sx x) (Sm.one (k := 10) (by decide)) (by decide) (by decide) (by decide)
    have b5 (x : Int) : bigC (x.fmod M) (-1) = true := bigC_of (sx x) ((Sm.one (k := 10) (by decide)).neg) (by decide) (by decide) (by decide)
    by_cases hn : n < 0
    · exact ⟨(-n).fmod M * -1, by simp only [runF, entry, initE, fin, finR, frz_p, frz_ref, frzW_nil, frzW_p, frzW_ref, frzW_map, contN, cont, pds, pds_map, mb, eb, sSeq, sSet, sRet, sRetN, sIf, sNext, sExpr, sBreak, sCont, mVar, mC, mCons, mNil, mTup, fTup, mLst, fLst, mBin, mUn, mCB, mTest, mTru, truF, mAndT, mOrT, mNotT, mAnd, mOr, mNot, mIf, mChain, map_p_nil, map_p_cons, deepV_p, okq_non, okq_bl, okq_int, okq_str, okq_tup, okq_lst, okqs_nil, okqs_cons, fEq_ii, fNe_ii, fEq_ss, fNe_ss, at0, at1, at2, at3, at4, seqOf_tup, seqOf_lst, seqOf_ref, listOf_lst, listOf_ref, fIx_tup, fIx_lst, fIx_ref, ix10, ix20, ix21, ix30, ix31, ix32, ix40, ix41, ix42, ix43, ix50, ix51, ix52, ix53, ix54, ix60, ix61, ix62, ix63, ix64, ix65, ix70, ix71, ix72, ix73, ix74, ix75, ix76, ix80, ix81, ix82, ix83, ix84, ix85, ix86, ix87, fI, fSub, fDiv, fMod, fPow, fNeg, fLt, fLe, fGt, fGe, fOrd, fGcd, fAbs, fInt, fLen, fStr, fIs, fIsNot, DL.isNon, fAdd, fMul, fIsi, tyOfD, tyNm, fAppend, mBM, mBM0, isL, DL.listOf, sSetItem, fSetItem, sPar, sAsg, tgName, tgTup, tgNil, tgCons, kit_ii, kit_bi, kit_ni, kit_si, kit_ti, kit_li, kit_ib, kit_bb, kit_nb, kit_sb, kit_tb, kit_lb, kit_it, kit_bt, kit_nt, kit_st, kit_tt, kit_lt, kit_is, kit_bs, kit_ns, kit_ss, kit_ts, kit_ls, kit_il, kit_bl, kit_nl, kit_sl, kit_tl, kit_ll, mCall, mCallD, callF, pass_nil, pass_p, pass_f, pass_m, callR, nodupB, setCells, yes2, line, range_1, range_2, List.length_cons, List.length_nil, List.getElem?_cons_zero, List.getElem?_cons_succ, List.map_cons, List.map_nil, List.replicate_zero, List.replicate_succ, List.range_zero, List.set_cons_zero, List.set_cons_succ, List.append_nil, List.nil_append, List.cons_append, List.contains_nil, if_true, if_false, ite_true, ite_false, reduceIte, Bool.and_true, Bool.true_and, Bool.not_true, Bool.not_false, Bool.false_and, Bool.and_false, decide_true, decide_false, Nat.reduceLeDiff, Nat.reduceSub, Nat.reduceAdd, Nat.reduceLT, Int.reduceLT, Int.reduceLE, Int.reduceEq, Int.reduceNe, Option.map_some, Option.map_none, Option.bind_some, Option.bind_none, decide_not, ne_eq, not_true_eq_false, not_false_eq_true, reduceCtorEq, and_self, nc0, nc1, nc2, nc3, nc4, nc5, nc6, S, I, hp2, p1, b1, b2, b3, hM, n0, b5, hn]⟩
    · exact ⟨n.fmod M * 1, by simp only [runF, entry, initE, fin, finR, frz_p, frz_ref, frzW_nil, frzW_p, frzW_ref, frzW_map, contN, cont, pds, pds_map, mb, eb, sSeq, sSet, sRet, sRetN, sIf, sNext, sExpr, sBreak, sCont, mVar, mC, mCons, mNil, mTup, fTup, mLst, fLst, mBin, mUn, mCB, mTest, mTru, truF, mAndT, mOrT, mNotT, mAnd, mOr, mNot, mIf, mChain, map_p_nil, map_p_cons, deepV_p, okq_non, okq_bl, okq_int, okq_str, okq_tup, okq_lst, okqs_nil, okqs_cons, fEq_ii, fNe_ii, fEq_ss, fNe_ss, at0, at1, at2, at3, at4, seqOf_tup, seqOf_lst, seqOf_ref, listOf_lst, listOf_ref, fIx_tup, fIx_lst, fIx_ref, ix10, ix20, ix21, ix30, ix31, ix32, ix40, ix41, ix42, ix43, ix50, ix51, ix52, ix53, ix54, ix60, ix61, ix62, ix63, ix64, ix65, ix70, ix71, ix72, ix73, ix74, ix75, ix76, ix80, ix81, ix82, ix83, ix84, ix85, ix86, ix87, fI, fSub, fDiv, fMod, fPow, fNeg, fLt, fLe, fGt, fGe, fOrd, fGcd, fAbs, fInt, fLen, fStr, fIs, fIsNot, DL.isNon, fAdd, fMul, fIsi, tyOfD, tyNm, fAppend, mBM, mBM0, isL, DL.listOf, sSetItem, fSetItem, sPar, sAsg, tgName, tgTup, tgNil, tgCons, kit_ii, kit_bi, kit_ni, kit_si, kit_ti, kit_li, kit_ib, kit_bb, kit_nb, kit_sb, kit_tb, kit_lb, kit_it, kit_bt, kit_nt, kit_st, kit_tt, kit_lt, kit_is, kit_bs, kit_ns, kit_ss, kit_ts, kit_ls, kit_il, kit_bl, kit_nl, kit_sl, kit_tl, kit_ll, mCall, mCallD, callF, pass_nil, pass_p, pass_f, pass_m, callR, nodupB, setCells, yes2, line, range_1, range_2, List.length_cons, List.length_nil, List.getElem?_cons_zero, List.getElem?_cons_succ, List.map_cons, List.map_nil, List.replicate_zero, List.replicate_succ, List.range_zero, List.set_cons_zero, List.set_cons_succ, List.append_nil, List.nil_append, List.cons_append, List.contains_nil, if_true, if_false, ite_true, ite_false, reduceIte, Bool.and_true, Bool.true_and, Bool.not_true, Bool.not_false, Bool.false_and, Bool.and_false, decide_true, decide_false, Nat.reduceLeDiff, Nat.reduceSub, Nat.reduceAdd, Nat.reduceLT, Int.reduceLT, Int.reduceLE, Int.reduceEq, Int.reduceNe, Option.map_some, Option.map_none, Option.bind_some, Option.bind_none, decide_not, ne_eq, not_true_eq_false, not_false_eq_true, reduceCtorEq, and_self, nc0, nc1, nc2, nc3, nc4, nc5, nc6, S, I, hp2, p1, b1, b2, b3, hM, n0, b4, hn]⟩
theorem law_eq (ns : List Int) (hl : ns.length ≤ 63) : f_law [.lst (ns.map .int)] [] = .ok (.bl true) [] := by
  obtain ⟨l0, e0, H0⟩ := start_eq ns hl
  obtain ⟨a, l1, e1, a0, a1, H1⟩ := draw_eq (many := 100) H0 (by decide) (by decide) (by unfold Sm; decide)
  obtain ⟨t, l2, e2, t0, t1, H2⟩ := draw_eq (many := 10 ^ Int.toNat 9) H1 (by decide) (by decide) (by unfold Sm; decide)
  obtain ⟨w, l3, e3, hw, H3⟩ := word_eq H2 (by decide)
  obtain ⟨r, l4, e4, H4⟩ := small_eq H3 (by decide)
  suffices key : ∃ s', m_law ⟨[some (.p (.lst (ns.map .int))), none, none, none, none, none, none, none, none, none, none], [], none⟩ = .rt (.p (.bl true)) s' by
    obtain ⟨s', key⟩ := key
    simp only [runF, entry, initE, fin, finR, frz_p, frz_ref, frzW_nil, frzW_p, frzW_ref, frzW_map, contN, cont, pds, pds_map, mb, eb, sSeq, sSet, sRet, sRetN, sIf, sNext, sExpr, sBreak, sCont, mVar, mC, mCons, mNil, mTup, fTup, mLst, fLst, mBin, mUn, mCB, mTest, mTru, truF, mAndT, mOrT, mNotT, mAnd, mOr, mNot, mIf, mChain, map_p_nil, map_p_cons, deepV_p, okq_non, okq_bl, okq_int, okq_str, okq_tup, okq_lst, okqs_nil, okqs_cons, fEq_ii, fNe_ii, fEq_ss, fNe_ss, at0, at1, at2, at3, at4, seqOf_tup, seqOf_lst, seqOf_ref, listOf_lst, listOf_ref, fIx_tup, fIx_lst, fIx_ref, ix10, ix20, ix21, ix30, ix31, ix32, ix40, ix41, ix42, ix43, ix50, ix51, ix52, ix53, ix54, ix60, ix61, ix62, ix63, ix64, ix65, ix70, ix71, ix72, ix73, ix74, ix75, ix76, ix80, ix81, ix82, ix83, ix84, ix85, ix86, ix87, fI, fSub, fDiv, fMod, fPow, fNeg, fLt, fLe, fGt, fGe, fOrd, fGcd, fAbs, fInt, fLen, fStr, fIs, fIsNot, DL.isNon, fAdd, fMul, fIsi, tyOfD, tyNm, fAppend, mBM, mBM0, isL, DL.listOf, sSetItem, fSetItem, sPar, sAsg, tgName, tgTup, tgNil, tgCons, kit_ii, kit_bi, kit_ni, kit_si, kit_ti, kit_li, kit_ib, kit_bb, kit_nb, kit_sb, kit_tb, kit_lb, kit_it, kit_bt, kit_nt, kit_st, kit_tt, kit_lt, kit_is, kit_bs, kit_ns, kit_ss, kit_ts, kit_ls, kit_il, kit_bl, kit_nl, kit_sl, kit_tl, kit_ll, mCall, mCallD, callF, pass_nil, pass_p, pass_f, pass_m, callR, nodupB, setCells, yes2, line, range_1, range_2, List.length_cons, List.length_nil, List.getElem?_cons_zero, List.getElem?_cons_succ, List.map_cons, List.map_nil, List.replicate_zero, List.replicate_succ, List.range_zero, List.set_cons_zero, List.set_cons_succ, List.append_nil, List.nil_append, List.cons_append, List.contains_nil, if_true, if_false, ite_true, ite_false, reduceIte, Bool.and_true, Bool.true_and, Bool.not_true, Bool.not_false, Bool.false_and, Bool.and_false, decide_true, decide_false, Nat.reduceLeDiff, Nat.reduceSub, Nat.reduceAdd, Nat.reduceLT, Int.reduceLT, Int.reduceLE, Int.reduceEq, Int.reduceNe, Option.map_some, Option.map_none, Option.bind_some, Option.bind_none, decide_not, ne_eq, not_true_eq_false, not_false_eq_true, reduceCtorEq, and_self, nc0, nc1, nc2, nc3, nc4, nc5, nc6, f_law, key]
  have p9 : powC 10 9 = true := by decide
  have p8 : powC 10 8 = true := by decide
  unfold m_law
  refine ex_seq (s1 := S ns none none none none none none none none [.lst (l0.map .p)]) (by simp only [runF, entry, initE, fin, finR, frz_p, frz_ref, frzW_nil, frzW_p, frzW_ref, frzW_map, contN, cont, pds, pds_map, mb, eb, sSeq, sSet, sRet, sRetN, sIf, sNext, sExpr, sBreak, sCont, mVar, mC, mCons, mNil, mTup, fTup, mLst, fLst, mBin, mUn, mCB, mTest, mTru, truF, mAndT, mOrT, mNotT, mAnd, mOr, mNot, mIf, mChain, map_p_nil, map_p_cons, deepV_p, okq_non, okq_bl, okq_int, okq_str, okq_tup, okq_lst, okqs_nil, okqs_cons, fEq_ii, fNe_ii, fEq_ss, fNe_ss, at0, at1, at2, at3, at4, seqOf_tup, seqOf_lst, seqOf_ref, listOf_lst, listOf_ref, fIx_tup, fIx_lst, fIx_ref, ix10, ix20, ix21, ix30, ix31, ix32, ix40, ix41, ix42, ix43, ix50, ix51, ix52, ix53, ix54, ix60, ix61, ix62, ix63, ix64, ix65, ix70, ix71, ix72, ix73, ix74, ix75, ix76, ix80, ix81, ix82, ix83, ix84, ix85, ix86, ix87, fI, fSub, fDiv, fMod, fPow, fNeg, fLt, fLe, fGt, fGe, fOrd, fGcd, fAbs, fInt, fLen, fStr, fIs, fIsNot, DL.isNon, fAdd, fMul, fIsi, tyOfD, tyNm, fAppend, mBM, mBM0, isL, DL.listOf, sSetItem, fSetItem, sPar, sAsg, tgName, tgTup, tgNil, tgCons, kit_ii, kit_bi, kit_ni, kit_si, kit_ti, kit_li, kit_ib, kit_bb, kit_nb, kit_sb, kit_tb, kit_lb, kit_it, kit_bt, kit_nt, kit_st, kit_tt, kit_lt, kit_is, kit_bs, kit_ns, kit_ss, kit_ts, kit_ls, kit_il, kit_bl, kit_nl, kit_sl, kit_tl, kit_ll, mCall, mCallD, callF, pass_nil, pass_p, pass_f, pass_m, callR, nodupB, setCells, yes2, line, range_1, range_2, List.length_cons, List.length_nil, List.getElem?_cons_zero, List.getElem?_cons_succ, List.map_cons, List.map_nil, List.replicate_zero, List.replicate_succ, List.range_zero, List.set_cons_zero, List.set_cons_succ, List.append_nil, List.nil_append, List.cons_append, List.contains_nil, if_true, if_false, ite_true, ite_false, reduceIte, Bool.and_true, Bool.true_and, Bool.not_true, Bool.not_false, Bool.false_and, Bool.and_false, decide_true, decide_false, Nat.reduceLeDiff, Nat.reduceSub, Nat.reduceAdd, Nat.reduceLT, Int.reduceLT, Int.reduceLE, Int.reduceEq, Int.reduceNe, Option.map_some, Option.map_none, Option.bind_some, Option.bind_none, decide_not, ne_eq, not_true_eq_false, not_false_eq_true, reduceCtorEq, and_self, nc0, nc1, nc2, nc3, nc4, nc5, nc6, S, e0]) ?_
  refine ex_seq (s1 := S ns (I a) none none none none none none none [.lst (l1.map .p)]) (by simp only [runF, entry, initE, fin, finR, frz_p, frz_ref, frzW_nil, frzW_p, frzW_ref, frzW_map, contN, cont, pds, pds_map, mb, eb, sSeq, sSet, sRet, sRetN, sIf, sNext, sExpr, sBreak, sCont, mVar, mC, mCons, mNil, mTup, fTup, mLst, fLst, mBin, mUn, mCB, mTest, mTru, truF, mAndT, mOrT, mNotT, mAnd, mOr, mNot, mIf, mChain, map_p_nil, map_p_cons, deepV_p, okq_non, okq_bl, okq_int, okq_str, okq_tup, okq_lst, okqs_nil, okqs_cons, fEq_ii, fNe_ii, fEq_ss, fNe_ss, at0, at1, at2, at3, at4, seqOf_tup, seqOf_lst, seqOf_ref, listOf_lst, listOf_ref, fIx_tup, fIx_lst, fIx_ref, ix10, ix20, ix21, ix30, ix31, ix32, ix40, ix41, ix42, ix43, ix50, ix51, ix52, ix53, ix54, ix60, ix61, ix62, ix63, ix64, ix65, ix70, ix71, ix72, ix73, ix74, ix75, ix76, ix80, ix81, ix82, ix83, ix84, ix85, ix86, ix87, fI, fSub, fDiv, fMod, fPow, fNeg, fLt, fLe, fGt, fGe, fOrd, fGcd, fAbs, fInt, fLen, fStr, fIs, fIsNot, DL.isNon, fAdd, fMul, fIsi, tyOfD, tyNm, fAppend, mBM, mBM0, isL, DL.listOf, sSetItem, fSetItem, sPar, sAsg, tgName, tgTup, tgNil, tgCons, kit_ii, kit_bi, kit_ni, kit_si, kit_ti, kit_li, kit_ib, kit_bb, kit_nb, kit_sb, kit_tb, kit_lb, kit_it, kit_bt, kit_nt, kit_st, kit_tt, kit_lt, kit_is, kit_bs, kit_ns, kit_ss, kit_ts, kit_ls, kit_il, kit_bl, kit_nl, kit_sl, kit_tl, kit_ll, mCall, mCallD, callF, pass_nil, pass_p, pass_f, pass_m, callR, nodupB, setCells, yes2, line, range_1, range_2, List.length_cons, List.length_nil, List.getElem?_cons_zero, List.getElem?_cons_succ, List.map_cons, List.map_nil, List.replicate_zero, List.replicate_succ, List.range_zero, List.set_cons_zero, List.set_cons_succ, List.append_nil, List.nil_append, List.cons_append, List.contains_nil, if_true, if_false, ite_true, ite_false, reduceIte, Bool.and_true, Bool.true_and, Bool.not_true, Bool.not_false, Bool.false_and, Bool.and_false, decide_true, decide_false, Nat.reduceLeDiff, Nat.reduceSub, Nat.reduceAdd, Nat.reduceLT, Int.reduceLT, Int.reduceLE, Int.reduceEq, Int.reduceNe, Option.map_some, Option.map_none, Option.bind_some, Option.bind_none, decide_not, ne_eq, not_true_eq_false, not_false_eq_true, reduceCtorEq, and_self, nc0, nc1, nc2, nc3, nc4, nc5, nc6, S, I, e1]) ?_
  obtain ⟨a', ea⟩ := at_step ns a (.lst (l1.map .p))
  refine ex_seq ea ?_
  refine ex_seq (s1 := S ns (I a') (I (t - 10 ^ Int.toNat 8)) none none none none none none [.lst (l2.map .p)]) (by simp only [runF, entry, initE, fin, finR, frz_p, frz_ref, frzW_nil, frzW_p, frzW_ref, frzW_map, contN, cont, pds, pds_map, mb, eb, sSeq, sSet, sRet, sRetN, sIf, sNext, sExpr, sBreak, sCont, mVar, mC, mCons, mNil, mTup, fTup, mLst, fLst, mBin, mUn, mCB, mTest, mTru, truF, mAndT, mOrT, mNotT, mAnd, mOr, mNot, mIf, mChain, map_p_nil, map_p_cons, deepV_p, okq_non, okq_bl, okq_int, okq_str, okq_tup, okq_lst, okqs_nil, okqs_cons, fEq_ii, fNe_ii, fEq_ss, fNe_ss, at0, at1, at2, at3, at4, seqOf_tup, seqOf_lst, seqOf_ref, listOf_lst, listOf_ref, fIx_tup, fIx_lst, fIx_ref, ix10, ix20, ix21, ix30, ix31, ix32, ix40, ix41, ix42, ix43, ix50, ix51, ix52, ix53, ix54, ix60, ix61, ix62, ix63, ix64, ix65, ix70, ix71, ix72, ix73, ix74, ix75, ix76, ix80, ix81, ix82, ix83, ix84, ix85, ix86, ix87, fI, fSub, fDiv, fMod, fPow, fNeg, fLt, fLe, fGt, fGe, fOrd, fGcd, fAbs, fInt, fLen, fStr, fIs, fIsNot, DL.isNon, fAdd, fMul, fIsi, tyOfD, tyNm, fAppend, mBM, mBM0, isL, DL.listOf, sSetItem, fSetItem, sPar, sAsg, tgName, tgTup, tgNil, tgCons, kit_ii, kit_bi, kit_ni, kit_si, kit_ti, kit_li, kit_ib, kit_bb, kit_nb, kit_sb, kit_tb, kit_lb, kit_it, kit_bt, kit_nt, kit_st, kit_tt, kit_lt, kit_is, kit_bs, kit_ns, kit_ss, kit_ts, kit_ls, kit_il, kit_bl, kit_nl, kit_sl, kit_tl, kit_ll, mCall, mCallD, callF, pass_nil, pass_p, pass_f, pass_m, callR, nodupB, setCells, yes2, line, range_1, range_2, List.length_cons, List.length_nil, List.getElem?_cons_zero, List.getElem?_cons_succ, List.map_cons, List.map_nil, List.replicate_zero, List.replicate_succ, List.range_zero, List.set_cons_zero, List.set_cons_succ, List.append_nil, List.nil_append, List.cons_append, List.contains_nil, if_true, if_false, ite_true, ite_false, reduceIte, Bool.and_true, Bool.true_and, Bool.not_true, Bool.not_false, Bool.false_and, Bool.and_false, decide_true, decide_false, Nat.reduceLeDiff, Nat.reduceSub, Nat.reduceAdd, Nat.reduceLT, Int.reduceLT, Int.reduceLE, Int.reduceEq, Int.reduceNe, Option.map_some, Option.map_none, Option.bind_some, Option.bind_none, decide_not, ne_eq, not_true_eq_false, not_false_eq_true, reduceCtorEq, and_self, nc0, nc1, nc2, nc3, nc4, nc5, nc6, S, I, p9, p8, e2]) ?_
  refine ex_seq (s1 := S ns (I a') (I (t - 10 ^ Int.toNat 8)) (some (.p (.str w))) none none none none none [.lst (l3.map .p)]) (by simp only [runF, entry, initE, fin, finR, frz_p, frz_ref, frzW_nil, frzW_p, frzW_ref, frzW_map, contN, cont, pds, pds_map, mb, eb, sSeq, sSet, sRet, sRetN, sIf, sNext, sExpr, sBreak, sCont, mVar, mC, mCons, mNil, mTup, fTup, mLst, fLst, mBin, mUn, mCB, mTest, mTru, truF, mAndT, mOrT, mNotT, mAnd, mOr, mNot, mIf, mChain, map_p_nil, map_p_cons, deepV_p, okq_non, okq_bl, okq_int, okq_str, okq_tup, okq_lst, okqs_nil, okqs_cons, fEq_ii, fNe_ii, fEq_ss, fNe_ss, at0, at1, at2, at3, at4, seqOf_tup, seqOf_lst, seqOf_ref, listOf_lst, listOf_ref, fIx_tup, fIx_lst, fIx_ref, ix10, ix20, ix21, ix30, ix31, ix32, ix40, ix41, ix42, ix43, ix50, ix51, ix52, ix53, ix54, ix60, ix61, ix62, ix63, ix64, ix65, ix70, ix71, ix72, ix73, ix74, ix75, ix76, ix80, ix81, ix82, ix83, ix84, ix85, ix86, ix87, fI, fSub, fDiv, fMod, fPow, fNeg, fLt, fLe, fGt, fGe, fOrd, fGcd, fAbs, fInt, fLen, fStr, fIs, fIsNot, DL.isNon, fAdd, fMul, fIsi, tyOfD, tyNm, fAppend, mBM, mBM0, isL, DL.listOf, sSetItem, fSetItem, sPar, sAsg, tgName, tgTup, tgNil, tgCons, kit_ii, kit_bi, kit_ni, kit_si, kit_ti, kit_li, kit_ib, kit_bb, kit_nb, kit_sb, kit_tb, kit_lb, kit_it, kit_bt, kit_nt, kit_st, kit_tt, kit_lt, kit_is, kit_bs, kit_ns, kit_ss, kit_ts, kit_ls, kit_il, kit_bl, kit_nl, kit_sl, kit_tl, kit_ll, mCall, mCallD, callF, pass_nil, pass_p, pass_f, pass_m, callR, nodupB, setCells, yes2, line, range_1, range_2, List.length_cons, List.length_nil, List.getElem?_cons_zero, List.getElem?_cons_succ, List.map_cons, List.map_nil, List.replicate_zero, List.replicate_succ, List.range_zero, List.set_cons_zero, List.set_cons_succ, List.append_nil, List.nil_append, List.cons_append, List.contains_nil, if_true, if_false, ite_true, ite_false, reduceIte, Bool.and_true, Bool.true_and, Bool.not_true, Bool.not_false, Bool.false_and, Bool.and_false, decide_true, decide_false, Nat.reduceLeDiff, Nat.reduceSub, Nat.reduceAdd, Nat.reduceLT, Int.reduceLT, Int.reduceLE, Int.reduceEq, Int.reduceNe, Option.map_some, Option.map_none, Option.bind_some, Option.bind_none, decide_not, ne_eq, not_true_eq_false, not_false_eq_true, reduceCtorEq, and_self, nc0, nc1, nc2, nc3, nc4, nc5, nc6, S, I, e3]) ?_
  generalize (t - 10 ^ Int.toNat 8) = to
  refine ex_seq (s1 := S ns (I a') (I to) (some (.p (.str w))) (some (.p (rat r))) none none none none [.lst (l4.map .p)]) (by simp only [runF, entry, initE, fin, finR, frz_p, frz_ref, frzW_nil, frzW_p, frzW_ref, frzW_map, contN, cont, pds, pds_map, mb, eb, sSeq, sSet, sRet, sRetN, sIf, sNext, sExpr, sBreak, sCont, mVar, mC, mCons, mNil, mTup, fTup, mLst, fLst, mBin, mUn, mCB, mTest, mTru, truF, mAndT, mOrT, mNotT, mAnd, mOr, mNot, mIf, mChain, map_p_nil, map_p_cons, deepV_p, okq_non, okq_bl, okq_int, okq_str, okq_tup, okq_lst, okqs_nil, okqs_cons, fEq_ii, fNe_ii, fEq_ss, fNe_ss, at0, at1, at2, at3, at4, seqOf_tup, seqOf_lst, seqOf_ref, listOf_lst, listOf_ref, fIx_tup, fIx_lst, fIx_ref, ix10, ix20, ix21, ix30, ix31, ix32, ix40, ix41, ix42, ix43, ix50, ix51, ix52, ix53, ix54, ix60, ix61, ix62, ix63, ix64, ix65, ix70, ix71, ix72, ix73, ix74, ix75, ix76, ix80, ix81, ix82, ix83, ix84, ix85, ix86, ix87, fI, fSub, fDiv, fMod, fPow, fNeg, fLt, fLe, fGt, fGe, fOrd, fGcd, fAbs, fInt, fLen, fStr, fIs, fIsNot, DL.isNon, fAdd, fMul, fIsi, tyOfD, tyNm, fAppend, mBM, mBM0, isL, DL.listOf, sSetItem, fSetItem, sPar, sAsg, tgName, tgTup, tgNil, tgCons, kit_ii, kit_bi, kit_ni, kit_si, kit_ti, kit_li, kit_ib, kit_bb, kit_nb, kit_sb, kit_tb, kit_lb, kit_it, kit_bt, kit_nt, kit_st, kit_tt, kit_lt, kit_is, kit_bs, kit_ns, kit_ss, kit_ts, kit_ls, kit_il, kit_bl, kit_nl, kit_sl, kit_tl, kit_ll, mCall, mCallD, callF, pass_nil, pass_p, pass_f, pass_m, callR, nodupB, setCells, yes2, line, range_1, range_2, List.length_cons, List.length_nil, List.getElem?_cons_zero, List.getElem?_cons_succ, List.map_cons, List.map_nil, List.replicate_zero, List.replicate_succ, List.range_zero, List.set_cons_zero, List.set_cons_succ, List.append_nil, List.nil_append, List.cons_append, List.contains_nil, if_true, if_false, ite_true, ite_false, reduceIte, Bool.and_true, Bool.true_and, Bool.not_true, Bool.not_false, Bool.false_and, Bool.and_false, decide_true, decide_false, Nat.reduceLeDiff, Nat.reduceSub, Nat.reduceAdd, Nat.reduceLT, Int.reduceLT, Int.reduceLE, Int.reduceEq, Int.reduceNe, Option.map_some, Option.map_none, Option.bind_some, Option.bind_none, decide_not, ne_eq, not_true_eq_false, not_false_eq_true, reduceCtorEq, and_self, nc0, nc1, nc2, nc3, nc4, nc5, nc6, S, I, e4]) ?_
  have f1 := first_eq a' to w (rat r)
  have f2 := second_eq a' to w (rat r)
  have fl : (firsts a' to w (rat r)).length + (seconds a' to w (rat r)).length ≤ line := by unfold firsts seconds; simp [line]
  refine ex_seq (s1 := S ns (I a') (I to) (some (.p (.str w))) (some (.p (rat r))) (some (.ref 1)) none none none [.lst (l4.map .p), .lst ((allRows a' to w (rat r)).map .p)]) (by
    simp only [runF, entry, initE, fin, finR, frz_p, frz_ref, frzW_nil, frzW_p, frzW_ref, frzW_map, contN, cont, pds, pds_map, mb, eb, sSeq, sSet, sRet, sRetN, sIf, sNext, sExpr, sBreak, sCont, mVar, mC, mCons, mNil, mTup, fTup, mLst, fLst, mBin, mUn, mCB, mTest, mTru, truF, mAndT, mOrT, mNotT, mAnd, mOr, mNot, mIf, mChain, map_p_nil, map_p_cons, deepV_p, okq_non, okq_bl, okq_int, okq_str, okq_tup, okq_lst, okqs_nil, okqs_cons, fEq_ii, fNe_ii, fEq_ss, fNe_ss, at0, at1, at2, at3, at4, seqOf_tup, seqOf_lst, seqOf_ref, listOf_lst, listOf_ref, fIx_tup, fIx_lst, fIx_ref, ix10, ix20, ix21, ix30, ix31, ix32, ix40, ix41, ix42, ix43, ix50, ix51, ix52, ix53, ix54, ix60, ix61, ix62, ix63, ix64, ix65, ix70, ix71, ix72, ix73, ix74, ix75, ix76, ix80, ix81, ix82, ix83, ix84, ix85, ix86, ix87, fI, fSub, fDiv, fMod, fPow, fNeg, fLt, fLe, fGt, fGe, fOrd, fGcd, fAbs, fInt, fLen, fStr, fIs, fIsNot, DL.isNon, fAdd, fMul, fIsi, tyOfD, tyNm, fAppend, mBM, mBM0, isL, DL.listOf, sSetItem, fSetItem, sPar, sAsg, tgName, tgTup, tgNil, tgCons, kit_ii, kit_bi, kit_ni, kit_si, kit_ti, kit_li, kit_ib, kit_bb, kit_nb, kit_sb, kit_tb, kit_lb, kit_it, kit_bt, kit_nt, kit_st, kit_tt, kit_lt, kit_is, kit_bs, kit_ns, kit_ss, kit_ts, kit_ls, kit_il, kit_bl, kit_nl, kit_sl, kit_tl, kit_ll, mCall, mCallD, callF, pass_nil, pass_p, pass_f, pass_m, callR, nodupB, setCells, yes2, line, range_1, range_2, List.length_cons, List.length_nil, List.getElem?_cons_zero, List.getElem?_cons_succ, List.map_cons, List.map_nil, List.replicate_zero, List.replicate_succ, List.range_zero, List.set_cons_zero, List.set_cons_succ, List.append_nil, List.nil_append, List.cons_append, List.contains_nil, if_true, if_false, ite_true, ite_false, reduceIte, Bool.and_true, Bool.true_and, Bool.not_true, Bool.not_false, Bool.false_and, Bool.and_false, decide_true, decide_false, Nat.reduceLeDiff, Nat.reduceSub, Nat.reduceAdd, Nat.reduceLT, Int.reduceLT, Int.reduceLE, Int.reduceEq, Int.reduceNe, Option.map_some, Option.map_none, Option.bind_some, Option.bind_none, decide_not, ne_eq, not_true_eq_false, not_false_eq_true, reduceCtorEq, and_self, nc0, nc1, nc2, nc3, nc4, nc5, nc6, S, I, f1, f2, List.length_append, List.length_map, fl, ← List.map_append, allRows]) ?_
  have hr : (rat r).okq 59 = true := okq_rat 58 r
  have hn : (rat r).nb = true := nb_rat r
  have hL : (allRows a' to w (rat r)).length = 25 := by unfold allRows; rw [List.length_append] <;> rfl
  obtain ⟨x7, x8, cs, lp⟩ := all_loop (scr := some (.p (.lst (ns.map .int)))) (at_ := a') (to := to) (w := w) (r := rat r) (C0 := .lst (l4.map .p)) (x9 := none) hw hr hn 25 0 [] none none rfl
  refine ex_seq (s1 := S ns (I a') (I to) (some (.p (.str w))) (some (.p (rat r))) (some (.ref 1)) x7 x8 none (.lst (l4.map .p) :: .lst ((allRows a' to w (rat r)).map .p) :: cs)) ?_ ?_
  · have mi := miR (scr := some (.p (.lst (ns.map .int)))) (at_ := I a') (to := I to) (w := some (.p (.str w))) (r := some (.p (rat r))) (C0 := .lst (l4.map .p)) hL none none none none []
    refine for_ok mi ?_
    rw [← rngR]
    exact lp
  refine ex_seq (s1 := S ns (I a') (I to) (some (.p (.str w))) (some (.p (rat r))) (some (.ref 1)) x7 x8 (some (.p (.obj "RootError" [] []))) (.lst (l4.map .p) :: .lst ((allRows a' to w (rat r)).map .p) :: cs)) (by simp only [runF, entry, initE, fin, finR, frz_p, frz_ref, frzW_nil, frzW_p, frzW_ref, frzW_map, contN, cont, pds, pds_map, mb, eb, sSeq, sSet, sRet, sRetN, sIf, sNext, sExpr, sBreak, sCont, mVar, mC, mCons, mNil, mTup, fTup, mLst, fLst, mBin, mUn, mCB, mTest, mTru, truF, mAndT, mOrT, mNotT, mAnd, mOr, mNot, mIf, mChain, map_p_nil, map_p_cons, deepV_p, okq_non, okq_bl, okq_int, okq_str, okq_tup, okq_lst, okqs_nil, okqs_cons, fEq_ii, fNe_ii, fEq_ss, fNe_ss, at0, at1, at2, at3, at4, seqOf_tup, seqOf_lst, seqOf_ref, listOf_lst, listOf_ref, fIx_tup, fIx_lst, fIx_ref, ix10, ix20, ix21, ix30, ix31, ix32, ix40, ix41, ix42, ix43, ix50, ix51, ix52, ix53, ix54, ix60, ix61, ix62, ix63, ix64, ix65, ix70, ix71, ix72, ix73, ix74, ix75, ix76, ix80, ix81, ix82, ix83, ix84, ix85, ix86, ix87, fI, fSub, fDiv, fMod, fPow, fNeg, fLt, fLe, fGt, fGe, fOrd, fGcd, fAbs, fInt, fLen, fStr, fIs, fIsNot, DL.isNon, fAdd, fMul, fIsi, tyOfD, tyNm, fAppend, mBM, mBM0, isL, DL.listOf, sSetItem, fSetItem, sPar, sAsg, tgName, tgTup, tgNil, tgCons, kit_ii, kit_bi, kit_ni, kit_si, kit_ti, kit_li, kit_ib, kit_bb, kit_nb, kit_sb, kit_tb, kit_lb, kit_it, kit_bt, kit_nt, kit_st, kit_tt, kit_lt, kit_is, kit_bs, kit_ns, kit_ss, kit_ts, kit_ls, kit_il, kit_bl, kit_nl, kit_sl, kit_tl, kit_ll, mCall, mCallD, callF, pass_nil, pass_p, pass_f, pass_m, callR, nodupB, setCells, yes2, line, range_1, range_2, List.length_cons, List.length_nil, List.getElem?_cons_zero, List.getElem?_cons_succ, List.map_cons, List.map_nil, List.replicate_zero, List.replicate_succ, List.range_zero, List.set_cons_zero, List.set_cons_succ, List.append_nil, List.nil_append, List.cons_append, List.contains_nil, if_true, if_false, ite_true, ite_false, reduceIte, Bool.and_true, Bool.true_and, Bool.not_true, Bool.not_false, Bool.false_and, Bool.and_false, decide_true, decide_false, Nat.reduceLeDiff, Nat.reduceSub, Nat.reduceAdd, Nat.reduceLT, Int.reduceLT, Int.reduceLE, Int.reduceEq, Int.reduceNe, Option.map_some, Option.map_none, Option.bind_some, Option.bind_none, decide_not, ne_eq, not_true_eq_false, not_false_eq_true, reduceCtorEq, and_self, nc0, nc1, nc2, nc3, nc4, nc5, nc6, S, mMkV0]) ?_
  generalize (Cell.lst (l4.map .p) :: .lst ((allRows a' to w (rat r)).map .p) :: cs) = cs2
  have v1 : isV_ValueError "RootError" = some true := by decide +kernel
  refine ex_seq (s1 := S ns (I a') (I to) (some (.p (.str w))) (some (.p (rat r))) (some (.ref 1)) x7 x8 (some (.p (.obj "RootError" [] []))) cs2) (by simp only [runF, entry, initE, fin, finR, frz_p, frz_ref, frzW_nil, frzW_p, frzW_ref, frzW_map, contN, cont, pds, pds_map, mb, eb, sSeq, sSet, sRet, sRetN, sIf, sNext, sExpr, sBreak, sCont, mVar, mC, mCons, mNil, mTup, fTup, mLst, fLst, mBin, mUn, mCB, mTest, mTru, truF, mAndT, mOrT, mNotT, mAnd, mOr, mNot, mIf, mChain, map_p_nil, map_p_cons, deepV_p, okq_non, okq_bl, okq_int, okq_str, okq_tup, okq_lst, okqs_nil, okqs_cons, fEq_ii, fNe_ii, fEq_ss, fNe_ss, at0, at1, at2, at3, at4, seqOf_tup, seqOf_lst, seqOf_ref, listOf_lst, listOf_ref, fIx_tup, fIx_lst, fIx_ref, ix10, ix20, ix21, ix30, ix31, ix32, ix40, ix41, ix42, ix43, ix50, ix51, ix52, ix53, ix54, ix60, ix61, ix62, ix63, ix64, ix65, ix70, ix71, ix72, ix73, ix74, ix75, ix76, ix80, ix81, ix82, ix83, ix84, ix85, ix86, ix87, fI, fSub, fDiv, fMod, fPow, fNeg, fLt, fLe, fGt, fGe, fOrd, fGcd, fAbs, fInt, fLen, fStr, fIs, fIsNot, DL.isNon, fAdd, fMul, fIsi, tyOfD, tyNm, fAppend, mBM, mBM0, isL, DL.listOf, sSetItem, fSetItem, sPar, sAsg, tgName, tgTup, tgNil, tgCons, kit_ii, kit_bi, kit_ni, kit_si, kit_ti, kit_li, kit_ib, kit_bb, kit_nb, kit_sb, kit_tb, kit_lb, kit_it, kit_bt, kit_nt, kit_st, kit_tt, kit_lt, kit_is, kit_bs, kit_ns, kit_ss, kit_ts, kit_ls, kit_il, kit_bl, kit_nl, kit_sl, kit_tl, kit_ll, mCall, mCallD, callF, pass_nil, pass_p, pass_f, pass_m, callR, nodupB, setCells, yes2, line, range_1, range_2, List.length_cons, List.length_nil, List.getElem?_cons_zero, List.getElem?_cons_succ, List.map_cons, List.map_nil, List.replicate_zero, List.replicate_succ, List.range_zero, List.set_cons_zero, List.set_cons_succ, List.append_nil, List.nil_append, List.cons_append, List.contains_nil, if_true, if_false, ite_true, ite_false, reduceIte, Bool.and_true, Bool.true_and, Bool.not_true, Bool.not_false, Bool.false_and, Bool.and_false, decide_true, decide_false, Nat.reduceLeDiff, Nat.reduceSub, Nat.reduceAdd, Nat.reduceLT, Int.reduceLT, Int.reduceLE, Int.reduceEq, Int.reduceNe, Option.map_some, Option.map_none, Option.bind_some, Option.bind_none, decide_not, ne_eq, not_true_eq_false, not_false_eq_true, reduceCtorEq, and_self, nc0, nc1, nc2, nc3, nc4, nc5, nc6, S, I, fIsV, v1, cls_root, fAny, bools]; try rfl) ?_
  have ra := raised_eq a' to w
  exact ⟨_, by simp only [runF, entry, initE, fin, finR, frz_p, frz_ref, frzW_nil, frzW_p, frzW_ref, frzW_map, contN, cont, pds, pds_map, mb, eb, sSeq, sSet, sRet, sRetN, sIf, sNext, sExpr, sBreak, sCont, mVar, mC, mCons, mNil, mTup, fTup, mLst, fLst, mBin, mUn, mCB, mTest, mTru, truF, mAndT, mOrT, mNotT, mAnd, mOr, mNot, mIf, mChain, map_p_nil, map_p_cons, deepV_p, okq_non, okq_bl, okq_int, okq_str, okq_tup, okq_lst, okqs_nil, okqs_cons, fEq_ii, fNe_ii, fEq_ss, fNe_ss, at0, at1, at2, at3, at4, seqOf_tup, seqOf_lst, seqOf_ref, listOf_lst, listOf_ref, fIx_tup, fIx_lst, fIx_ref, ix10, ix20, ix21, ix30, ix31, ix32, ix40, ix41, ix42, ix43, ix50, ix51, ix52, ix53, ix54, ix60, ix61, ix62, ix63, ix64, ix65, ix70, ix71, ix72, ix73, ix74, ix75, ix76, ix80, ix81, ix82, ix83, ix84, ix85, ix86, ix87, fI, fSub, fDiv, fMod, fPow, fNeg, fLt, fLe, fGt, fGe, fOrd, fGcd, fAbs, fInt, fLen, fStr, fIs, fIsNot, DL.isNon, fAdd, fMul, fIsi, tyOfD, tyNm, fAppend, mBM, mBM0, isL, DL.listOf, sSetItem, fSetItem, sPar, sAsg, tgName, tgTup, tgNil, tgCons, kit_ii, kit_bi, kit_ni, kit_si, kit_ti, kit_li, kit_ib, kit_bb, kit_nb, kit_sb, kit_tb, kit_lb, kit_it, kit_bt, kit_nt, kit_st, kit_tt, kit_lt, kit_is, kit_bs, kit_ns, kit_ss, kit_ts, kit_ls, kit_il, kit_bl, kit_nl, kit_sl, kit_tl, kit_ll, mCall, mCallD, callF, pass_nil, pass_p, pass_f, pass_m, callR, nodupB, setCells, yes2, line, range_1, range_2, List.length_cons, List.length_nil, List.getElem?_cons_zero, List.getElem?_cons_succ, List.map_cons, List.map_nil, List.replicate_zero, List.replicate_succ, List.range_zero, List.set_cons_zero, List.set_cons_succ, List.append_nil, List.nil_append, List.cons_append, List.contains_nil, if_true, if_false, ite_true, ite_false, reduceIte, Bool.and_true, Bool.true_and, Bool.not_true, Bool.not_false, Bool.false_and, Bool.and_false, decide_true, decide_false, Nat.reduceLeDiff, Nat.reduceSub, Nat.reduceAdd, Nat.reduceLT, Int.reduceLT, Int.reduceLE, Int.reduceEq, Int.reduceNe, Option.map_some, Option.map_none, Option.bind_some, Option.bind_none, decide_not, ne_eq, not_true_eq_false, not_false_eq_true, reduceCtorEq, and_self, nc0, nc1, nc2, nc3, nc4, nc5, nc6, S, I, ra]; rfl⟩
end K00
namespace K00
open PySem PySem.Spec PyProof.Rows L2 DL
def hd__law_start : He.DefD := ⟨("_law_start", none), "_law_start", "_law_start", defArgs s__law_start, defBody s__law_start, defScope s__law_start, [], []⟩
def hd__law_mixed : He.DefD := ⟨("_law_mixed", none), "_law_mixed", "_law_mixed", defArgs s__law_mixed, defBody s__law_mixed, defScope s__law_mixed, [], []⟩
def hd__law_draw : He.DefD := ⟨("_law_draw", none), "_law_draw", "_law_draw", defArgs s__law_draw, defBody s__law_draw, defScope s__law_draw, [], []⟩
def hd__law_word : He.DefD := ⟨("_law_word", none), "_law_word", "_law_word", defArgs s__law_word, defBody s__law_word, defScope s__law_word, [], []⟩
def hd__law_gcd : He.DefD := ⟨("_law_gcd", none), "_law_gcd", "_law_gcd", defArgs s__law_gcd, defBody s__law_gcd, defScope s__law_gcd, [], []⟩
def hd__law_ratio : He.DefD := ⟨("_law_ratio", none), "_law_ratio", "_law_ratio", defArgs s__law_ratio, defBody s__law_ratio, defScope s__law_ratio, [], []⟩
def hd__law_small : He.DefD := ⟨("_law_small", none), "_law_small", "_law_small", defArgs s__law_small, defBody s__law_small, defScope s__law_small, [], []⟩
def hd__law_first : He.DefD := ⟨("_law_first", none), "_law_first", "_law_first", defArgs s__law_first, defBody s__law_first, defScope s__law_first, [], []⟩
def hd__law_second : He.DefD := ⟨("_law_second", none), "_law_second", "_law_second", defArgs s__law_second, defBody s__law_second, defScope s__law_second, [], []⟩
def hd__law_classes : He.DefD := ⟨("_law_classes", none), "_law_classes", "_law_classes", defArgs s__law_classes, defBody s__law_classes, defScope s__law_classes, [], []⟩
def hd__law_raised : He.DefD := ⟨("_law_raised", none), "_law_raised", "_law_raised", defArgs s__law_raised, defBody s__law_raised, defScope s__law_raised, [], []⟩
def hd_law : He.DefD := ⟨("law", none), "law", "law", defArgs s_law, defBody s_law, defScope s_law, [], []⟩
def hd_init_BadTower : He.DefD := ⟨("BadTower", some "__init__"), "__init__", "BadTower.__init__", defArgs si_BadTower, defBody si_BadTower, defScope si_BadTower, [], []⟩
def hd_init_BadText : He.DefD := ⟨("BadText", some "__init__"), "__init__", "BadText.__init__", defArgs si_BadText, defBody si_BadText, defScope si_BadText, [], []⟩
def hd_init_BadElement : He.DefD := ⟨("BadElement", some "__init__"), "__init__", "BadElement.__init__", defArgs si_BadElement, defBody si_BadElement, defScope si_BadElement, [], []⟩
def hd_init_Pole : He.DefD := ⟨("Pole", some "__init__"), "__init__", "Pole.__init__", defArgs si_Pole, defBody si_Pole, defScope si_Pole, [], []⟩
def hd_init_BadRatio : He.DefD := ⟨("BadRatio", some "__init__"), "__init__", "BadRatio.__init__", defArgs si_BadRatio, defBody si_BadRatio, defScope si_BadRatio, [], []⟩
def hd_init_TooMany : He.DefD := ⟨("TooMany", some "__init__"), "__init__", "TooMany.__init__", defArgs si_TooMany, defBody si_TooMany, defScope si_TooMany, [], []⟩
def hd_init_BadSystem : He.DefD := ⟨("BadSystem", some "__init__"), "__init__", "BadSystem.__init__", defArgs si_BadSystem, defBody si_BadSystem, defScope si_BadSystem, [], []⟩
def hd_init_NoLetter : He.DefD := ⟨("NoLetter", some "__init__"), "__init__", "NoLetter.__init__", defArgs si_NoLetter, defBody si_NoLetter, defScope si_NoLetter, [], []⟩
def hd_init_NoPlace : He.DefD := ⟨("NoPlace", some "__init__"), "__init__", "NoPlace.__init__", defArgs si_NoPlace, defBody si_NoPlace, defScope si_NoPlace, [], []⟩
def hd_init_DividedByNought : He.DefD := ⟨("DividedByNought", some "__init__"), "__init__", "DividedByNought.__init__", defArgs si_DividedByNought, defBody si_DividedByNought, defScope si_DividedByNought, [], []⟩
def hd_init_NoMark : He.DefD := ⟨("NoMark", some "__init__"), "__init__", "NoMark.__init__", defArgs si_NoMark, defBody si_NoMark, defScope si_NoMark, [], []⟩
def hd_init_LackingLetter : He.DefD := ⟨("LackingLetter", some "__init__"), "__init__", "LackingLetter.__init__", defArgs si_LackingLetter, defBody si_LackingLetter, defScope si_LackingLetter, [], []⟩
def hd_init_BadPoint : He.DefD := ⟨("BadPoint", some "__init__"), "__init__", "BadPoint.__init__", defArgs si_BadPoint, defBody si_BadPoint, defScope si_BadPoint, [], []⟩
def hd_init_BadProgram : He.DefD := ⟨("BadProgram", some "__init__"), "__init__", "BadProgram.__init__", defArgs si_BadProgram, defBody si_BadProgram, defScope si_BadProgram, [], []⟩
def hd_init_BadLot : He.DefD := ⟨("BadLot", some "__init__"), "__init__", "BadLot.__init__", defArgs si_BadLot, defBody si_BadLot, defScope si_BadLot, [], []⟩
def hd_init_BadPrefix : He.DefD := ⟨("BadPrefix", some "__init__"), "__init__", "BadPrefix.__init__", defArgs si_BadPrefix, defBody si_BadPrefix, defScope si_BadPrefix, [], []⟩
def hd_init_BadSaying : He.DefD := ⟨("BadSaying", some "__init__"), "__init__", "BadSaying.__init__", defArgs si_BadSaying, defBody si_BadSaying, defScope si_BadSaying, [], []⟩
def hd_init_HasFree : He.DefD := ⟨("HasFree", some "__init__"), "__init__", "HasFree.__init__", defArgs si_HasFree, defBody si_HasFree, defScope si_HasFree, [], []⟩
def hd_init_ZeroNote : He.DefD := ⟨("ZeroNote", some "__init__"), "__init__", "ZeroNote.__init__", defArgs si_ZeroNote, defBody si_ZeroNote, defScope si_ZeroNote, [], []⟩
def hd_init_NotMonic : He.DefD := ⟨("NotMonic", some "__init__"), "__init__", "NotMonic.__init__", defArgs si_NotMonic, defBody si_NotMonic, defScope si_NotMonic, [], []⟩
def hd_init_OtherLetters : He.DefD := ⟨("OtherLetters", some "__init__"), "__init__", "OtherLetters.__init__", defArgs si_OtherLetters, defBody si_OtherLetters, defScope si_OtherLetters, [], []⟩
def hd_init_NoneMarked : He.DefD := ⟨("NoneMarked", some "__init__"), "__init__", "NoneMarked.__init__", defArgs si_NoneMarked, defBody si_NoneMarked, defScope si_NoneMarked, [], []⟩
def hd_init_NoPoint : He.DefD := ⟨("NoPoint", some "__init__"), "__init__", "NoPoint.__init__", defArgs si_NoPoint, defBody si_NoPoint, defScope si_NoPoint, [], []⟩
def hfn : List He.DefD := ([hd__law_start, hd__law_mixed, hd__law_draw, hd__law_word, hd__law_gcd, hd__law_ratio, hd__law_small, hd__law_first, hd__law_second, hd__law_classes, hd__law_raised, hd_law, hd_init_BadTower, hd_init_BadText, hd_init_BadElement, hd_init_Pole, hd_init_BadRatio, hd_init_TooMany, hd_init_BadSystem, hd_init_NoLetter, hd_init_NoPlace, hd_init_DividedByNought, hd_init_NoMark, hd_init_LackingLetter, hd_init_BadPoint, hd_init_BadProgram, hd_init_BadLot, hd_init_BadPrefix, hd_init_BadSaying, hd_init_HasFree] : List He.DefD) ++ ([hd_init_ZeroNote, hd_init_NotMonic, hd_init_OtherLetters, hd_init_NoneMarked, hd_init_NoPoint] : List He.DefD)
def hfa : List He.Fa := ([.glo "_law_start", .glo "_law_mixed", .glo "_law_draw", .glo "_law_word", .glo "_law_gcd", .glo "_law_ratio", .glo "_law_small", .glo "_law_first", .glo "_law_second", .glo "_law_classes", .glo "_law_raised", .glo "law", .glo "RootError", .glo "BadTower", .glo "BadText", .glo "BadElement", .glo "Pole", .glo "BadRatio", .glo "TooMany", .glo "BadSystem", .glo "NoLetter", .glo "NoPlace", .glo "DividedByNought", .glo "NoMark", .glo "LackingLetter", .glo "BadPoint", .glo "BadProgram", .glo "BadLot", .glo "BadPrefix", .glo "BadSaying"] : List He.Fa) ++ ([.glo "HasFree", .glo "ZeroNote", .glo "NotMonic", .glo "OtherLetters", .glo "NoneMarked", .glo "NotOne", .glo "NoPoint", .glo "NoFree", .exm "RootError" "RootError" true, .exm "BadTower" "RootError" true, .exm "BadText" "RootError" true, .exm "BadElement" "RootError" true, .exm "Pole" "RootError" true, .exm "BadRatio" "RootError" true, .exm "TooMany" "RootError" true, .exm "BadSystem" "RootError" true, .exm "NoLetter" "RootError" true, .exm "NoPlace" "RootError" true, .exm "DividedByNought" "RootError" true, .exm "NoMark" "RootError" true, .exm "LackingLetter" "RootError" true, .exm "BadPoint" "RootError" true, .exm "BadProgram" "RootError" true, .exm "BadLot" "RootError" true, .exm "BadPrefix" "RootError" true, .exm "BadSaying" "RootError" true, .exm "HasFree" "RootError" true, .exm "ZeroNote" "RootError" true, .exm "NotMonic" "RootError" true, .exm "OtherLetters" "RootError" true] : List He.Fa) ++ ([.exm "NoneMarked" "RootError" true, .exm "NotOne" "RootError" true, .exm "NoPoint" "RootError" true, .exm "NoFree" "RootError" true, .exm "RootError" "NoPoint" false, .exm "BadTower" "NoPoint" false, .exm "BadText" "NoPoint" false, .exm "BadElement" "NoPoint" false, .exm "Pole" "NoPoint" false, .exm "BadRatio" "NoPoint" false, .exm "TooMany" "NoPoint" false, .exm "BadSystem" "NoPoint" false, .exm "NoLetter" "NoPoint" false, .exm "NoPlace" "NoPoint" false, .exm "DividedByNought" "NoPoint" false, .exm "NoMark" "NoPoint" false, .exm "LackingLetter" "NoPoint" false, .exm "BadPoint" "NoPoint" false, .exm "BadProgram" "NoPoint" false, .exm "BadLot" "NoPoint" false, .exm "BadPrefix" "NoPoint" false, .exm "BadSaying" "NoPoint" false, .exm "HasFree" "NoPoint" false, .exm "ZeroNote" "NoPoint" false, .exm "NotMonic" "NoPoint" false, .exm "OtherLetters" "NoPoint" false, .exm "NoneMarked" "NoPoint" false, .exm "NotOne" "NoPoint" false, .exm "NoPoint" "NoPoint" true, .exm "NoFree" "NoPoint" false] : List He.Fa) ++ ([.exm "RootError" "BadText" false, .exm "BadTower" "BadText" false, .exm "BadText" "BadText" true, .exm "BadElement" "BadText" false, .exm "Pole" "BadText" false, .exm "BadRatio" "BadText" false, .exm "TooMany" "BadText" false, .exm "BadSystem" "BadText" false, .exm "NoLetter" "BadText" false, .exm "NoPlace" "BadText" false, .exm "DividedByNought" "BadText" false, .exm "NoMark" "BadText" false, .exm "LackingLetter" "BadText" false, .exm "BadPoint" "BadText" false, .exm "BadProgram" "BadText" false, .exm "BadLot" "BadText" false, .exm "BadPrefix" "BadText" false, .exm "BadSaying" "BadText" false, .exm "HasFree" "BadText" false, .exm "ZeroNote" "BadText" false, .exm "NotMonic" "BadText" false, .exm "OtherLetters" "BadText" false, .exm "NoneMarked" "BadText" false, .exm "NotOne" "BadText" false, .exm "NoPoint" "BadText" false, .exm "NoFree" "BadText" false, .exm "RootError" "BadTower" false, .exm "BadTower" "BadTower" true, .exm "BadText" "BadTower" false, .exm "BadElement" "BadTower" false] : List He.Fa) ++ ([.exm "Pole" "BadTower" false, .exm "BadRatio" "BadTower" false, .exm "TooMany" "BadTower" false, .exm "BadSystem" "BadTower" false, .exm "NoLetter" "BadTower" false, .exm "NoPlace" "BadTower" false, .exm "DividedByNought" "BadTower" false, .exm "NoMark" "BadTower" false, .exm "LackingLetter" "BadTower" false, .exm "BadPoint" "BadTower" false, .exm "BadProgram" "BadTower" false, .exm "BadLot" "BadTower" false, .exm "BadPrefix" "BadTower" false, .exm "BadSaying" "BadTower" false, .exm "HasFree" "BadTower" false, .exm "ZeroNote" "BadTower" false, .exm "NotMonic" "BadTower" false, .exm "OtherLetters" "BadTower" false, .exm "NoneMarked" "BadTower" false, .exm "NotOne" "BadTower" false, .exm "NoPoint" "BadTower" false, .exm "NoFree" "BadTower" false, .exm "RootError" "BadSystem" false, .exm "BadTower" "BadSystem" false, .exm "BadText" "BadSystem" false, .exm "BadElement" "BadSystem" false, .exm "Pole" "BadSystem" false, .exm "BadRatio" "BadSystem" false, .exm "TooMany" "BadSystem" false, .exm "BadSystem" "BadSystem" true] : List He.Fa) ++ ([.exm "NoLetter" "BadSystem" false, .exm "NoPlace" "BadSystem" false, .exm "DividedByNought" "BadSystem" false, .exm "NoMark" "BadSystem" false, .exm "LackingLetter" "BadSystem" false, .exm "BadPoint" "BadSystem" false, .exm "BadProgram" "BadSystem" false, .exm "BadLot" "BadSystem" false, .exm "BadPrefix" "BadSystem" false, .exm "BadSaying" "BadSystem" false, .exm "HasFree" "BadSystem" false, .exm "ZeroNote" "BadSystem" false, .exm "NotMonic" "BadSystem" false, .exm "OtherLetters" "BadSystem" false, .exm "NoneMarked" "BadSystem" false, .exm "NotOne" "BadSystem" false, .exm "NoPoint" "BadSystem" false, .exm "NoFree" "BadSystem" false, .free "ArithmeticError", .free "LookupError", .free "ValueError", .free "abs", .free "any", .free "int", .free "isinstance", .free "len", .free "range"] : List He.Fa)
def hex (K : PySem.W.Frag) : Bool := (excB K "BadTower" ["what", "place"] && (excB K "BadText" ["line", "what"] && (excB K "BadElement" ["index"] && (excB K "Pole" ["at"] && (excB K "BadRatio" ["what"] && (excB K "TooMany" ["most"] && (excB K "BadSystem" ["what", "place"] && (excB K "NoLetter" ["letter"] && (excB K "NoPlace" ["place"] && (excB K "DividedByNought" [] && (excB K "NoMark" ["mark"] && (excB K "LackingLetter" ["letter"] && (excB K "BadPoint" ["index", "what"] && (excB K "BadProgram" ["line", "what"] && (excB K "BadLot" ["what"] && (excB K "BadPrefix" ["many"] && (excB K "BadSaying" ["what"] && (excB K "HasFree" [] && (excB K "ZeroNote" [] && (excB K "NotMonic" [] && (excB K "OtherLetters" [] && (excB K "NoneMarked" [] && (excB K "NoPoint" [] && (xnB K "RootError" && (xnB K "NotOne" && (xnB K "NoFree" && (excKsB K ["BadElement", "BadLot", "BadPoint", "BadPrefix", "BadProgram", "BadRatio", "BadSaying", "BadSystem", "BadText", "BadTower", "DividedByNought", "HasFree", "LackingLetter", "NoFree", "NoLetter", "NoMark", "NoPlace", "NoPoint", "NoneMarked", "NotMonic", "NotOne", "OtherLetters", "Pole", "RootError", "TooMany", "ZeroNote"] && (tabB K (.ref (He.ga K "RootError")) [("BadTower", true), ("BadText", true), ("BadElement", true), ("Pole", true), ("BadRatio", true), ("TooMany", true), ("BadSystem", true), ("NoLetter", true), ("NoPlace", true), ("DividedByNought", true), ("NoMark", true), ("LackingLetter", true), ("BadPoint", true), ("BadProgram", true), ("BadLot", true), ("BadPrefix", true), ("BadSaying", true), ("HasFree", true), ("ZeroNote", true), ("NotMonic", true), ("OtherLetters", true), ("NoneMarked", true), ("NotOne", true), ("NoPoint", true), ("NoFree", true), ("RootError", true)] && (tabB K (.type "ValueError") [("BadTower", true), ("BadText", true), ("BadElement", true), ("Pole", true), ("BadRatio", true), ("TooMany", true), ("BadSystem", true), ("NoLetter", true), ("NoPlace", true), ("DividedByNought", true), ("NoMark", true), ("LackingLetter", true), ("BadPoint", true), ("BadProgram", true), ("BadLot", true), ("BadPrefix", true), ("BadSaying", true), ("HasFree", true), ("ZeroNote", true), ("NotMonic", true), ("OtherLetters", true), ("NoneMarked", true), ("NotOne", true), ("NoPoint", true), ("NoFree", true), ("RootError", true)] && (tabB K (.type "LookupError") [("BadTower", false), ("BadText", false), ("BadElement", false), ("Pole", false), ("BadRatio", false), ("TooMany", false), ("BadSystem", false), ("NoLetter", false), ("NoPlace", false), ("DividedByNought", false), ("NoMark", false), ("LackingLetter", false), ("BadPoint", false), ("BadProgram", false), ("BadLot", false), ("BadPrefix", false), ("BadSaying", false), ("HasFree", false), ("ZeroNote", false), ("NotMonic", false), ("OtherLetters", false), ("NoneMarked", false), ("NotOne", false), ("NoPoint", false), ("NoFree", false), ("RootError", false)] && (tabB K (.type "ArithmeticError") [("BadTower", false), ("BadText", false), ("BadElement", false), ("Pole", false), ("BadRatio", false), ("TooMany", false), ("BadSystem", false), ("NoLetter", false), ("NoPlace", false), ("DividedByNought", false), ("NoMark", false), ("LackingLetter", false), ("BadPoint", false), ("BadProgram", false), ("BadLot", false), ("BadPrefix", false), ("BadSaying", false), ("HasFree", false), ("ZeroNote", false), ("NotMonic", false), ("OtherLetters", false), ("NoneMarked", false), ("NotOne", false), ("NoPoint", false), ("NoFree", false), ("RootError", false)] && (tabB K (.ref (He.ga K "BadElement")) [("BadTower", false), ("BadText", false), ("BadElement", true), ("Pole", false), ("BadRatio", false), ("TooMany", false), ("BadSystem", false), ("NoLetter", false), ("NoPlace", false), ("DividedByNought", false), ("NoMark", false), ("LackingLetter", false), ("BadPoint", false), ("BadProgram", false), ("BadLot", false), ("BadPrefix", false), ("BadSaying", false), ("HasFree", false), ("ZeroNote", false), ("NotMonic", false), ("OtherLetters", false), ("NoneMarked", false), ("NotOne", false), ("NoPoint", false), ("NoFree", false), ("RootError", false)] && (tabB K (.ref (He.ga K "Pole")) [("BadTower", false), ("BadText", false), ("BadElement", false), ("Pole", true), ("BadRatio", false), ("TooMany", false), ("BadSystem", false), ("NoLetter", false), ("NoPlace", false), ("DividedByNought", false), ("NoMark", false), ("LackingLetter", false), ("BadPoint", false), ("BadProgram", false), ("BadLot", false), ("BadPrefix", false), ("BadSaying", false), ("HasFree", false), ("ZeroNote", false), ("NotMonic", false), ("OtherLetters", false), ("NoneMarked", false), ("NotOne", false), ("NoPoint", false), ("NoFree", false), ("RootError", false)] && (tabB K (.ref (He.ga K "DividedByNought")) [("BadTower", false), ("BadText", false), ("BadElement", false), ("Pole", false), ("BadRatio", false), ("TooMany", false), ("BadSystem", false), ("NoLetter", false), ("NoPlace", false), ("DividedByNought", true), ("NoMark", false), ("LackingLetter", false), ("BadPoint", false), ("BadProgram", false), ("BadLot", false), ("BadPrefix", false), ("BadSaying", false), ("HasFree", false), ("ZeroNote", false), ("NotMonic", false), ("OtherLetters", false), ("NoneMarked", false), ("NotOne", false), ("NoPoint", false), ("NoFree", false), ("RootError", false)] && (tabB K (.ref (He.ga K "BadRatio")) [("BadTower", false), ("BadText", false), ("BadElement", false), ("Pole", false), ("BadRatio", true), ("TooMany", false), ("BadSystem", false), ("NoLetter", false), ("NoPlace", false), ("DividedByNought", false), ("NoMark", false), ("LackingLetter", false), ("BadPoint", false), ("BadProgram", false), ("BadLot", false), ("BadPrefix", false), ("BadSaying", false), ("HasFree", false), ("ZeroNote", false), ("NotMonic", false), ("OtherLetters", false), ("NoneMarked", false), ("NotOne", false), ("NoPoint", false), ("NoFree", false), ("RootError", false)] && (tabB K (.ref (He.ga K "NoLetter")) [("BadTower", false), ("BadText", false), ("BadElement", false), ("Pole", false), ("BadRatio", false), ("TooMany", false), ("BadSystem", false), ("NoLetter", true), ("NoPlace", false), ("DividedByNought", false), ("NoMark", false), ("LackingLetter", false), ("BadPoint", false), ("BadProgram", false), ("BadLot", false), ("BadPrefix", false), ("BadSaying", false), ("HasFree", false), ("ZeroNote", false), ("NotMonic", false), ("OtherLetters", false), ("NoneMarked", false), ("NotOne", false), ("NoPoint", false), ("NoFree", false), ("RootError", false)] && (tabB K (.ref (He.ga K "NoPlace")) [("BadTower", false), ("BadText", false), ("BadElement", false), ("Pole", false), ("BadRatio", false), ("TooMany", false), ("BadSystem", false), ("NoLetter", false), ("NoPlace", true), ("DividedByNought", false), ("NoMark", false), ("LackingLetter", false), ("BadPoint", false), ("BadProgram", false), ("BadLot", false), ("BadPrefix", false), ("BadSaying", false), ("HasFree", false), ("ZeroNote", false), ("NotMonic", false), ("OtherLetters", false), ("NoneMarked", false), ("NotOne", false), ("NoPoint", false), ("NoFree", false), ("RootError", false)] && (tabB K (.ref (He.ga K "BadTower")) [("BadTower", true), ("BadText", false), ("BadElement", false), ("Pole", false), ("BadRatio", false), ("TooMany", false), ("BadSystem", false), ("NoLetter", false), ("NoPlace", false), ("DividedByNought", false), ("NoMark", false), ("LackingLetter", false), ("BadPoint", false), ("BadProgram", false), ("BadLot", false), ("BadPrefix", false), ("BadSaying", false), ("HasFree", false), ("ZeroNote", false), ("NotMonic", false), ("OtherLetters", false), ("NoneMarked", false), ("NotOne", false), ("NoPoint", false), ("NoFree", false), ("RootError", false)] && (tabB K (.ref (He.ga K "BadText")) [("BadTower", false), ("BadText", true), ("BadElement", false), ("Pole", false), ("BadRatio", false), ("TooMany", false), ("BadSystem", false), ("NoLetter", false), ("NoPlace", false), ("DividedByNought", false), ("NoMark", false), ("LackingLetter", false), ("BadPoint", false), ("BadProgram", false), ("BadLot", false), ("BadPrefix", false), ("BadSaying", false), ("HasFree", false), ("ZeroNote", false), ("NotMonic", false), ("OtherLetters", false), ("NoneMarked", false), ("NotOne", false), ("NoPoint", false), ("NoFree", false), ("RootError", false)] && (tabB K (.ref (He.ga K "NotMonic")) [("BadTower", false), ("BadText", false), ("BadElement", false), ("Pole", false), ("BadRatio", false), ("TooMany", false), ("BadSystem", false), ("NoLetter", false), ("NoPlace", false), ("DividedByNought", false), ("NoMark", false), ("LackingLetter", false), ("BadPoint", false), ("BadProgram", false), ("BadLot", false), ("BadPrefix", false), ("BadSaying", false), ("HasFree", false), ("ZeroNote", false), ("NotMonic", true), ("OtherLetters", false), ("NoneMarked", false), ("NotOne", false), ("NoPoint", false), ("NoFree", false), ("RootError", false)] && (tabB K (.ref (He.ga K "OtherLetters")) [("BadTower", false), ("BadText", false), ("BadElement", false), ("Pole", false), ("BadRatio", false), ("TooMany", false), ("BadSystem", false), ("NoLetter", false), ("NoPlace", false), ("DividedByNought", false), ("NoMark", false), ("LackingLetter", false), ("BadPoint", false), ("BadProgram", false), ("BadLot", false), ("BadPrefix", false), ("BadSaying", false), ("HasFree", false), ("ZeroNote", false), ("NotMonic", false), ("OtherLetters", true), ("NoneMarked", false), ("NotOne", false), ("NoPoint", false), ("NoFree", false), ("RootError", false)] && (tabB K (.ref (He.ga K "TooMany")) [("BadTower", false), ("BadText", false), ("BadElement", false), ("Pole", false), ("BadRatio", false), ("TooMany", true), ("BadSystem", false), ("NoLetter", false), ("NoPlace", false), ("DividedByNought", false), ("NoMark", false), ("LackingLetter", false), ("BadPoint", false), ("BadProgram", false), ("BadLot", false), ("BadPrefix", false), ("BadSaying", false), ("HasFree", false), ("ZeroNote", false), ("NotMonic", false), ("OtherLetters", false), ("NoneMarked", false), ("NotOne", false), ("NoPoint", false), ("NoFree", false), ("RootError", false)] && (tabB K (.ref (He.ga K "BadSystem")) [("BadTower", false), ("BadText", false), ("BadElement", false), ("Pole", false), ("BadRatio", false), ("TooMany", false), ("BadSystem", true), ("NoLetter", false), ("NoPlace", false), ("DividedByNought", false), ("NoMark", false), ("LackingLetter", false), ("BadPoint", false), ("BadProgram", false), ("BadLot", false), ("BadPrefix", false), ("BadSaying", false), ("HasFree", false), ("ZeroNote", false), ("NotMonic", false), ("OtherLetters", false), ("NoneMarked", false), ("NotOne", false), ("NoPoint", false), ("NoFree", false), ("RootError", false)] && (tabB K (.ref (He.ga K "BadPoint")) [("BadTower", false), ("BadText", false), ("BadElement", false), ("Pole", false), ("BadRatio", false), ("TooMany", false), ("BadSystem", false), ("NoLetter", false), ("NoPlace", false), ("DividedByNought", false), ("NoMark", false), ("LackingLetter", false), ("BadPoint", true), ("BadProgram", false), ("BadLot", false), ("BadPrefix", false), ("BadSaying", false), ("HasFree", false), ("ZeroNote", false), ("NotMonic", false), ("OtherLetters", false), ("NoneMarked", false), ("NotOne", false), ("NoPoint", false), ("NoFree", false), ("RootError", false)] && (tabB K (.ref (He.ga K "BadProgram")) [("BadTower", false), ("BadText", false), ("BadElement", false), ("Pole", false), ("BadRatio", false), ("TooMany", false), ("BadSystem", false), ("NoLetter", false), ("NoPlace", false), ("DividedByNought", false), ("NoMark", false), ("LackingLetter", false), ("BadPoint", false), ("BadProgram", true), ("BadLot", false), ("BadPrefix", false), ("BadSaying", false), ("HasFree", false), ("ZeroNote", false), ("NotMonic", false), ("OtherLetters", false), ("NoneMarked", false), ("NotOne", false), ("NoPoint", false), ("NoFree", false), ("RootError", false)] && (tabB K (.ref (He.ga K "HasFree")) [("BadTower", false), ("BadText", false), ("BadElement", false), ("Pole", false), ("BadRatio", false), ("TooMany", false), ("BadSystem", false), ("NoLetter", false), ("NoPlace", false), ("DividedByNought", false), ("NoMark", false), ("LackingLetter", false), ("BadPoint", false), ("BadProgram", false), ("BadLot", false), ("BadPrefix", false), ("BadSaying", false), ("HasFree", true), ("ZeroNote", false), ("NotMonic", false), ("OtherLetters", false), ("NoneMarked", false), ("NotOne", false), ("NoPoint", false), ("NoFree", false), ("RootError", false)] && (tabB K (.ref (He.ga K "ZeroNote")) [("BadTower", false), ("BadText", false), ("BadElement", false), ("Pole", false), ("BadRatio", false), ("TooMany", false), ("BadSystem", false), ("NoLetter", false), ("NoPlace", false), ("DividedByNought", false), ("NoMark", false), ("LackingLetter", false), ("BadPoint", false), ("BadProgram", false), ("BadLot", false), ("BadPrefix", false), ("BadSaying", false), ("HasFree", false), ("ZeroNote", true), ("NotMonic", false), ("OtherLetters", false), ("NoneMarked", false), ("NotOne", false), ("NoPoint", false), ("NoFree", false), ("RootError", false)] && (tabB K (.ref (He.ga K "NoMark")) [("BadTower", false), ("BadText", false), ("BadElement", false), ("Pole", false), ("BadRatio", false), ("TooMany", false), ("BadSystem", false), ("NoLetter", false), ("NoPlace", false), ("DividedByNought", false), ("NoMark", true), ("LackingLetter", false), ("BadPoint", false), ("BadProgram", false), ("BadLot", false), ("BadPrefix", false), ("BadSaying", false), ("HasFree", false), ("ZeroNote", false), ("NotMonic", false), ("OtherLetters", false), ("NoneMarked", false), ("NotOne", false), ("NoPoint", false), ("NoFree", false), ("RootError", false)] && (tabB K (.ref (He.ga K "NotOne")) [("BadTower", false), ("BadText", false), ("BadElement", false), ("Pole", false), ("BadRatio", false), ("TooMany", false), ("BadSystem", false), ("NoLetter", false), ("NoPlace", false), ("DividedByNought", false), ("NoMark", false), ("LackingLetter", false), ("BadPoint", false), ("BadProgram", false), ("BadLot", false), ("BadPrefix", false), ("BadSaying", false), ("HasFree", false), ("ZeroNote", false), ("NotMonic", false), ("OtherLetters", false), ("NoneMarked", false), ("NotOne", true), ("NoPoint", false), ("NoFree", false), ("RootError", false)] && (tabB K (.ref (He.ga K "NoPoint")) [("BadTower", false), ("BadText", false), ("BadElement", false), ("Pole", false), ("BadRatio", false), ("TooMany", false), ("BadSystem", false), ("NoLetter", false), ("NoPlace", false), ("DividedByNought", false), ("NoMark", false), ("LackingLetter", false), ("BadPoint", false), ("BadProgram", false), ("BadLot", false), ("BadPrefix", false), ("BadSaying", false), ("HasFree", false), ("ZeroNote", false), ("NotMonic", false), ("OtherLetters", false), ("NoneMarked", false), ("NotOne", false), ("NoPoint", true), ("NoFree", false), ("RootError", false)] && (tabB K (.ref (He.ga K "LackingLetter")) [("BadTower", false), ("BadText", false), ("BadElement", false), ("Pole", false), ("BadRatio", false), ("TooMany", false), ("BadSystem", false), ("NoLetter", false), ("NoPlace", false), ("DividedByNought", false), ("NoMark", false), ("LackingLetter", true), ("BadPoint", false), ("BadProgram", false), ("BadLot", false), ("BadPrefix", false), ("BadSaying", false), ("HasFree", false), ("ZeroNote", false), ("NotMonic", false), ("OtherLetters", false), ("NoneMarked", false), ("NotOne", false), ("NoPoint", false), ("NoFree", false), ("RootError", false)] && (tabB K (.ref (He.ga K "BadLot")) [("BadTower", false), ("BadText", false), ("BadElement", false), ("Pole", false), ("BadRatio", false), ("TooMany", false), ("BadSystem", false), ("NoLetter", false), ("NoPlace", false), ("DividedByNought", false), ("NoMark", false), ("LackingLetter", false), ("BadPoint", false), ("BadProgram", false), ("BadLot", true), ("BadPrefix", false), ("BadSaying", false), ("HasFree", false), ("ZeroNote", false), ("NotMonic", false), ("OtherLetters", false), ("NoneMarked", false), ("NotOne", false), ("NoPoint", false), ("NoFree", false), ("RootError", false)] && (tabB K (.ref (He.ga K "BadPrefix")) [("BadTower", false), ("BadText", false), ("BadElement", false), ("Pole", false), ("BadRatio", false), ("TooMany", false), ("BadSystem", false), ("NoLetter", false), ("NoPlace", false), ("DividedByNought", false), ("NoMark", false), ("LackingLetter", false), ("BadPoint", false), ("BadProgram", false), ("BadLot", false), ("BadPrefix", true), ("BadSaying", false), ("HasFree", false), ("ZeroNote", false), ("NotMonic", false), ("OtherLetters", false), ("NoneMarked", false), ("NotOne", false), ("NoPoint", false), ("NoFree", false), ("RootError", false)] && (tabB K (.ref (He.ga K "BadSaying")) [("BadTower", false), ("BadText", false), ("BadElement", false), ("Pole", false), ("BadRatio", false), ("TooMany", false), ("BadSystem", false), ("NoLetter", false), ("NoPlace", false), ("DividedByNought", false), ("NoMark", false), ("LackingLetter", false), ("BadPoint", false), ("BadProgram", false), ("BadLot", false), ("BadPrefix", false), ("BadSaying", true), ("HasFree", false), ("ZeroNote", false), ("NotMonic", false), ("OtherLetters", false), ("NoneMarked", false), ("NotOne", false), ("NoPoint", false), ("NoFree", false), ("RootError", false)] && (tabB K (.ref (He.ga K "NoneMarked")) [("BadTower", false), ("BadText", false), ("BadElement", false), ("Pole", false), ("BadRatio", false), ("TooMany", false), ("BadSystem", false), ("NoLetter", false), ("NoPlace", false), ("DividedByNought", false), ("NoMark", false), ("LackingLetter", false), ("BadPoint", false), ("BadProgram", false), ("BadLot", false), ("BadPrefix", false), ("BadSaying", false), ("HasFree", false), ("ZeroNote", false), ("NotMonic", false), ("OtherLetters", false), ("NoneMarked", true), ("NotOne", false), ("NoPoint", false), ("NoFree", false), ("RootError", false)] && (tabB K (.ref (He.ga K "NoFree")) [("BadTower", false), ("BadText", false), ("BadElement", false), ("Pole", false), ("BadRatio", false), ("TooMany", false), ("BadSystem", false), ("NoLetter", false), ("NoPlace", false), ("DividedByNought", false), ("NoMark", false), ("LackingLetter", false), ("BadPoint", false), ("BadProgram", false), ("BadLot", false), ("BadPrefix", false), ("BadSaying", false), ("HasFree", false), ("ZeroNote", false), ("NotMonic", false), ("OtherLetters", false), ("NoneMarked", false), ("NotOne", false), ("NoPoint", false), ("NoFree", true), ("RootError", false)] && (tabB K (.ref (He.ga K "BadTower")) [("RootError", false), ("BadTower", true), ("BadText", false), ("BadElement", false), ("Pole", false), ("BadRatio", false), ("TooMany", false), ("BadSystem", false), ("NoLetter", false), ("NoPlace", false), ("DividedByNought", false), ("NoMark", false), ("LackingLetter", false), ("BadPoint", false), ("BadProgram", false), ("BadLot", false), ("BadPrefix", false), ("BadSaying", false), ("HasFree", false), ("ZeroNote", false), ("NotMonic", false), ("OtherLetters", false), ("NoneMarked", false), ("NotOne", false), ("NoPoint", false), ("NoFree", false)] && (tabB K (.ref (He.ga K "BadSystem")) [("RootError", false), ("BadTower", false), ("BadText", false), ("BadElement", false), ("Pole", false), ("BadRatio", false), ("TooMany", false), ("BadSystem", true), ("NoLetter", false), ("NoPlace", false), ("DividedByNought", false), ("NoMark", false), ("LackingLetter", false), ("BadPoint", false), ("BadProgram", false), ("BadLot", false), ("BadPrefix", false), ("BadSaying", false), ("HasFree", false), ("ZeroNote", false), ("NotMonic", false), ("OtherLetters", false), ("NoneMarked", false), ("NotOne", false), ("NoPoint", false), ("NoFree", false)] && (xoB K "index" ["BadElement", "BadPoint"] && (xoB K "at" ["Pole"] && (xoB K "what" ["BadTower", "BadText", "BadRatio", "BadSystem", "BadPoint", "BadProgram", "BadLot", "BadSaying"] && (xoB K "place" ["BadTower", "BadSystem", "NoPlace"] && (xoB K "line" ["BadText", "BadProgram"] && (xoB K "most" ["TooMany"] && (xoB K "letter" ["NoLetter", "LackingLetter"] && (xoB K "mark" ["NoMark"] && (xoB K "many" ["BadPrefix"] && (riB K "RootError" && true))))))))))))))))))))))))))))))))))))))))))))))))))))))))))))))))))))
abbrev opR : PySem.W.OpenRow := PySem.W.OpenLaw.row PySem.Challenge.rw_neverfactored_k00_whole_errors_side_by_s
abbrev hk : PySem.W.Hook := hookX 5 hfa hfn hex
def ob (s : PySem.W.SharedT) : AlX := obsXG 5 hfa hfn hex (HandSHeadRun.getT s)
theorem ob_eq (s : PySem.W.SharedT) : ob s = hk.obs s.abs := obsXG_eq (HandSHeadRun.getT_eq s)
def names : List Str := (["RootError", "BadRatio", "DividedByNought", "Pole", "BadElement", "BadText", "BadTower", "NoPlace", "NoLetter", "BadSystem", "TooMany", "OtherLetters", "NotMonic", "ZeroNote", "HasFree", "BadProgram", "BadPoint", "LackingLetter", "NoPoint", "NotOne", "NoMark", "NoneMarked", "BadSaying", "BadPrefix", "BadLot", "NoFree", "_law_start", "_law_mixed", "_law_draw", "_law_gcd"] : List Str) ++ (["_law_ratio", "_law_small", "_law_word", "_law_first", "_law_second", "_law_classes", "_law_raised"] : List Str)
theorem run (w : World) : HandSHeadRun.RunEq opR (PySem.W.view opR.prog [39]) hk ob 20000 names w := by
  intro os
  kernel_rfl
theorem tops {K : PySem.W.Frag} {h : Heap} {mg : Str → Option Value} (X : K.In h) (G : h.Ns mainGlobals mg) (c : SaysX hfa hfn hex K) : ∃ t : Adr, Top K mg t ∧ t.a_law = He.ga K "law" ∧ ∀ (s : Shared) (us : List Value), us.length = 1 → BindsTo s t.fd_law ⟨us, []⟩ ((["_law_script"] : List Str).zip us) := by
  obtain ⟨fd__law_start, F__law_start⟩ : ∃ fd, FunD K "_law_start" "_law_start" (defArgs s__law_start) (defBody s__law_start) (defScope s__law_start) [] [] (He.ga K "_law_start") fd := c.d.def_ 0 (d := hd__law_start) rfl
  obtain ⟨fd__law_mixed, F__law_mixed⟩ : ∃ fd, FunD K "_law_mixed" "_law_mixed" (defArgs s__law_mixed) (defBody s__law_mixed) (defScope s__law_mixed) [] [] (He.ga K "_law_mixed") fd := c.d.def_ 1 (d := hd__law_mixed) rfl
  obtain ⟨fd__law_draw, F__law_draw⟩ : ∃ fd, FunD K "_law_draw" "_law_draw" (defArgs s__law_draw) (defBody s__law_draw) (defScope s__law_draw) [] [] (He.ga K "_law_draw") fd := c.d.def_ 2 (d := hd__law_draw) rfl
  obtain ⟨fd__law_word, F__law_word⟩ : ∃ fd, FunD K "_law_word" "_law_word" (defArgs s__law_word) (defBody s__law_word) (defScope s__law_word) [] [] (He.ga K "_law_word") fd := c.d.def_ 3 (d := hd__law_word) rfl
  obtain ⟨fd__law_gcd, F__law_gcd⟩ : ∃ fd, FunD K "_law_gcd" "_law_gcd" (defArgs s__law_gcd) (defBody s__law_gcd) (defScope s__law_gcd) [] [] (He.ga K "_law_gcd") fd := c.d.def_ 4 (d := hd__law_gcd) rfl
  obtain ⟨fd__law_ratio, F__law_ratio⟩ : ∃ fd, FunD K "_law_ratio" "_law_ratio" (defArgs s__law_ratio) (defBody s__law_ratio) (defScope s__law_ratio) [] [] (He.ga K "_law_ratio") fd := c.d.def_ 5 (d := hd__law_ratio) rfl
  obtain ⟨fd__law_small, F__law_small⟩ : ∃ fd, FunD K "_law_small" "_law_small" (defArgs s__law_small) (defBody s__law_small) (defScope s__law_small) [] [] (He.ga K "_law_small") fd := c.d.def_ 6 (d := hd__law_small) rfl
  obtain ⟨fd__law_first, F__law_first⟩ : ∃ fd, FunD K "_law_first" "_law_first" (defArgs s__law_first) (defBody s__law_first) (defScope s__law_first) [] [] (He.ga K "_law_first") fd := c.d.def_ 7 (d := hd__law_first) rfl
  obtain ⟨fd__law_second, F__law_second⟩ : ∃ fd, FunD K "_law_second" "_law_second" (defArgs s__law_second) (defBody s__law_second) (defScope s__law_second) [] [] (He.ga K "_law_second") fd := c.d.def_ 8 (d := hd__law_second) rfl
  obtain ⟨fd__law_classes, F__law_classes⟩ : ∃ fd, FunD K "_law_classes" "_law_classes" (defArgs s__law_classes) (defBody s__law_classes) (defScope s__law_classes) [] [] (He.ga K "_law_classes") fd := c.d.def_ 9 (d := hd__law_classes) rfl
  obtain ⟨fd__law_raised, F__law_raised⟩ : ∃ fd, FunD K "_law_raised" "_law_raised" (defArgs s__law_raised) (defBody s__law_raised) (defScope s__law_raised) [] [] (He.ga K "_law_raised") fd := c.d.def_ 10 (d := hd__law_raised) rfl
  obtain ⟨fd_law, F_law⟩ : ∃ fd, FunD K "law" "law" (defArgs s_law) (defBody s_law) (defScope s_law) [] [] (He.ga K "law") fd := c.d.def_ 11 (d := hd_law) rfl
  obtain ⟨fi_BadTower, Fi_BadTower⟩ : ∃ fd, FunD K "__init__" "BadTower.__init__" (defArgs si_BadTower) (defBody si_BadTower) (defScope si_BadTower) [] [] (He.ma K (He.ga K "BadTower") "__init__") fd := c.d.def_ 12 (d := hd_init_BadTower) rfl
  obtain ⟨fi_BadText, Fi_BadText⟩ : ∃ fd, FunD K "__init__" "BadText.__init__" (defArgs si_BadText) (defBody si_BadText) (defScope si_BadText) [] [] (He.ma K (He.ga K "BadText") "__init__") fd := c.d.def_ 13 (d := hd_init_BadText) rfl
  obtain ⟨fi_BadElement, Fi_BadElement⟩ : ∃ fd, FunD K "__init__" "BadElement.__init__" (defArgs si_BadElement) (defBody si_BadElement) (defScope si_BadElement) [] [] (He.ma K (He.ga K "BadElement") "__init__") fd := c.d.def_ 14 (d := hd_init_BadElement) rfl
  obtain ⟨fi_Pole, Fi_Pole⟩ : ∃ fd, FunD K "__init__" "Pole.__init__" (defArgs si_Pole) (defBody si_Pole) (defScope si_Pole) [] [] (He.ma K (He.ga K "Pole") "__init__") fd := c.d.def_ 15 (d := hd_init_Pole) rfl
  obtain ⟨fi_BadRatio, Fi_BadRatio⟩ : ∃ fd, FunD K "__init__" "BadRatio.__init__" (defArgs si_BadRatio) (defBody si_BadRatio) (defScope si_BadRatio) [] [] (He.ma K (He.ga K "BadRatio") "__init__") fd := c.d.def_ 16 (d := hd_init_BadRatio) rfl
  obtain ⟨fi_TooMany, Fi_TooMany⟩ : ∃ fd, FunD K "__init__" "TooMany.__init__" (defArgs si_TooMany) (defBody si_TooMany) (defScope si_TooMany) [] [] (He.ma K (He.ga K "TooMany") "__init__") fd := c.d.def_ 17 (d := hd_init_TooMany) rfl
  obtain ⟨fi_BadSystem, Fi_BadSystem⟩ : ∃ fd, FunD K "__init__" "BadSystem.__init__" (defArgs si_BadSystem) (defBody si_BadSystem) (defScope si_BadSystem) [] [] (He.ma K (He.ga K "BadSystem") "__init__") fd := c.d.def_ 18 (d := hd_init_BadSystem) rfl
  obtain ⟨fi_NoLetter, Fi_NoLetter⟩ : ∃ fd, FunD K "__init__" "NoLetter.__init__" (defArgs si_NoLetter) (defBody si_NoLetter) (defScope si_NoLetter) [] [] (He.ma K (He.ga K "NoLetter") "__init__") fd := c.d.def_ 19 (d := hd_init_NoLetter) rfl
  obtain ⟨fi_NoPlace, Fi_NoPlace⟩ : ∃ fd, FunD K "__init__" "NoPlace.__init__" (defArgs si_NoPlace) (defBody si_NoPlace) (defScope si_NoPlace) [] [] (He.ma K (He.ga K "NoPlace") "__init__") fd := c.d.def_ 20 (d := hd_init_NoPlace) rfl
  obtain ⟨fi_DividedByNought, Fi_DividedByNought⟩ : ∃ fd, FunD K "__init__" "DividedByNought.__init__" (defArgs si_DividedByNought) (defBody si_DividedByNought) (defScope si_DividedByNought) [] [] (He.ma K (He.ga K "DividedByNought") "__init__") fd := c.d.def_ 21 (d := hd_init_DividedByNought) rfl
  obtain ⟨fi_NoMark, Fi_NoMark⟩ : ∃ fd, FunD K "__init__" "NoMark.__init__" (defArgs si_NoMark) (defBody si_NoMark) (defScope si_NoMark) [] [] (He.ma K (He.ga K "NoMark") "__init__") fd := c.d.def_ 22 (d := hd_init_NoMark) rfl
  obtain ⟨fi_LackingLetter, Fi_LackingLetter⟩ : ∃ fd, FunD K "__init__" "LackingLetter.__init__" (defArgs si_LackingLetter) (defBody si_LackingLetter) (defScope si_LackingLetter) [] [] (He.ma K (He.ga K "LackingLetter") "__init__") fd := c.d.def_ 23 (d := hd_init_LackingLetter) rfl
  obtain ⟨fi_BadPoint, Fi_BadPoint⟩ : ∃ fd, FunD K "__init__" "BadPoint.__init__" (defArgs si_BadPoint) (defBody si_BadPoint) (defScope si_BadPoint) [] [] (He.ma K (He.ga K "BadPoint") "__init__") fd := c.d.def_ 24 (d := hd_init_BadPoint) rfl
  obtain ⟨fi_BadProgram, Fi_BadProgram⟩ : ∃ fd, FunD K "__init__" "BadProgram.__init__" (defArgs si_BadProgram) (defBody si_BadProgram) (defScope si_BadProgram) [] [] (He.ma K (He.ga K "BadProgram") "__init__") fd := c.d.def_ 25 (d := hd_init_BadProgram) rfl
  obtain ⟨fi_BadLot, Fi_BadLot⟩ : ∃ fd, FunD K "__init__" "BadLot.__init__" (defArgs si_BadLot) (defBody si_BadLot) (defScope si_BadLot) [] [] (He.ma K (He.ga K "BadLot") "__init__") fd := c.d.def_ 26 (d := hd_init_BadLot) rfl
  obtain ⟨fi_BadPrefix, Fi_BadPrefix⟩ : ∃ fd, FunD K "__init__" "BadPrefix.__init__" (defArgs si_BadPrefix) (defBody si_BadPrefix) (defScope si_BadPrefix) [] [] (He.ma K (He.ga K "BadPrefix") "__init__") fd := c.d.def_ 27 (d := hd_init_BadPrefix) rfl
  obtain ⟨fi_BadSaying, Fi_BadSaying⟩ : ∃ fd, FunD K "__init__" "BadSaying.__init__" (defArgs si_BadSaying) (defBody si_BadSaying) (defScope si_BadSaying) [] [] (He.ma K (He.ga K "BadSaying") "__init__") fd := c.d.def_ 28 (d := hd_init_BadSaying) rfl
  obtain ⟨fi_HasFree, Fi_HasFree⟩ : ∃ fd, FunD K "__init__" "HasFree.__init__" (defArgs si_HasFree) (defBody si_HasFree) (defScope si_HasFree) [] [] (He.ma K (He.ga K "HasFree") "__init__") fd := c.d.def_ 29 (d := hd_init_HasFree) rfl
  obtain ⟨fi_ZeroNote, Fi_ZeroNote⟩ : ∃ fd, FunD K "__init__" "ZeroNote.__init__" (defArgs si_ZeroNote) (defBody si_ZeroNote) (defScope si_ZeroNote) [] [] (He.ma K (He.ga K "ZeroNote") "__init__") fd := c.d.def_ 30 (d := hd_init_ZeroNote) rfl
  obtain ⟨fi_NotMonic, Fi_NotMonic⟩ : ∃ fd, FunD K "__init__" "NotMonic.__init__" (defArgs si_NotMonic) (defBody si_NotMonic) (defScope si_NotMonic) [] [] (He.ma K (He.ga K "NotMonic") "__init__") fd := c.d.def_ 31 (d := hd_init_NotMonic) rfl
  obtain ⟨fi_OtherLetters, Fi_OtherLetters⟩ : ∃ fd, FunD K "__init__" "OtherLetters.__init__" (defArgs si_OtherLetters) (defBody si_OtherLetters) (defScope si_OtherLetters) [] [] (He.ma K (He.ga K "OtherLetters") "__init__") fd := c.d.def_ 32 (d := hd_init_OtherLetters) rfl
  obtain ⟨fi_NoneMarked, Fi_NoneMarked⟩ : ∃ fd, FunD K "__init__" "NoneMarked.__init__" (defArgs si_NoneMarked) (defBody si_NoneMarked) (defScope si_NoneMarked) [] [] (He.ma K (He.ga K "NoneMarked") "__init__") fd := c.d.def_ 33 (d := hd_init_NoneMarked) rfl
  obtain ⟨fi_NoPoint, Fi_NoPoint⟩ : ∃ fd, FunD K "__init__" "NoPoint.__init__" (defArgs si_NoPoint) (defBody si_NoPoint) (defScope si_NoPoint) [] [] (He.ma K (He.ga K "NoPoint") "__init__") fd := c.d.def_ 34 (d := hd_init_NoPoint) rfl
  have e0 := c.x
  obtain ⟨x0, e1⟩ := He.ba e0
  obtain ⟨x1, e2⟩ := He.ba e1
  obtain ⟨x2, e3⟩ := He.ba e2
  obtain ⟨x3, e4⟩ := He.ba e3
  obtain ⟨x4, e5⟩ := He.ba e4
  obtain ⟨x5, e6⟩ := He.ba e5
  obtain ⟨x6, e7⟩ := He.ba e6
  obtain ⟨x7, e8⟩ := He.ba e7
  obtain ⟨x8, e9⟩ := He.ba e8
  obtain ⟨x9, e10⟩ := He.ba e9
  obtain ⟨x10, e11⟩ := He.ba e10
  obtain ⟨x11, e12⟩ := He.ba e11
  obtain ⟨x12, e13⟩ := He.ba e12
  obtain ⟨x13, e14⟩ := He.ba e13
  obtain ⟨x14, e15⟩ := He.ba e14
  obtain ⟨x15, e16⟩ := He.ba e15
  obtain ⟨x16, e17⟩ := He.ba e16
  obtain ⟨x17, e18⟩ := He.ba e17
  obtain ⟨x18, e19⟩ := He.ba e18
  obtain ⟨x19, e20⟩ := He.ba e19
  obtain ⟨x20, e21⟩ := He.ba e20
  obtain ⟨x21, e22⟩ := He.ba e21
  obtain ⟨x22, e23⟩ := He.ba e22
  obtain ⟨x23, e24⟩ := He.ba e23
  obtain ⟨x24, e25⟩ := He.ba e24
  obtain ⟨x25, e26⟩ := He.ba e25
  obtain ⟨x26, e27⟩ := He.ba e26
  obtain ⟨x27, e28⟩ := He.ba e27
  obtain ⟨x28, e29⟩ := He.ba e28
  obtain ⟨x29, e30⟩ := He.ba e29
  obtain ⟨x30, e31⟩ := He.ba e30
  obtain ⟨x31, e32⟩ := He.ba e31
  obtain ⟨x32, e33⟩ := He.ba e32
  obtain ⟨x33, e34⟩ := He.ba e33
  obtain ⟨x34, e35⟩ := He.ba e34
  obtain ⟨x35, e36⟩ := He.ba e35
  obtain ⟨x36, e37⟩ := He.ba e36
  obtain ⟨x37, e38⟩ := He.ba e37
  obtain ⟨x38, e39⟩ := He.ba e38
  obtain ⟨x39, e40⟩ := He.ba e39
  obtain ⟨x40, e41⟩ := He.ba e40
  obtain ⟨x41, e42⟩ := He.ba e41
  obtain ⟨x42, e43⟩ := He.ba e42
  obtain ⟨x43, e44⟩ := He.ba e43
  obtain ⟨x44, e45⟩ := He.ba e44
  obtain ⟨x45, e46⟩ := He.ba e45
  obtain ⟨x46, e47⟩ := He.ba e46
  obtain ⟨x47, e48⟩ := He.ba e47
  obtain ⟨x48, e49⟩ := He.ba e48
  obtain ⟨x49, e50⟩ := He.ba e49
  obtain ⟨x50, e51⟩ := He.ba e50
  obtain ⟨x51, e52⟩ := He.ba e51
  obtain ⟨x52, e53⟩ := He.ba e52
  obtain ⟨x53, e54⟩ := He.ba e53
  obtain ⟨x54, e55⟩ := He.ba e54
  obtain ⟨x55, e56⟩ := He.ba e55
  obtain ⟨x56, e57⟩ := He.ba e56
  obtain ⟨x57, e58⟩ := He.ba e57
  obtain ⟨x58, e59⟩ := He.ba e58
  obtain ⟨x59, e60⟩ := He.ba e59
  obtain ⟨x60, e61⟩ := He.ba e60
  obtain ⟨x61, e62⟩ := He.ba e61
  obtain ⟨x62, e63⟩ := He.ba e62
  obtain ⟨x63, e64⟩ := He.ba e63
  obtain ⟨x64, e65⟩ := He.ba e64
  obtain ⟨x65, e66⟩ := He.ba e65
  obtain ⟨x66, e67⟩ := He.ba e66
  obtain ⟨x67, e68⟩ := He.ba e67
  have t_BadTower := excB_ok x0
  have t_BadText := excB_ok x1
  have t_BadElement := excB_ok x2
  have t_Pole := excB_ok x3
  have t_BadRatio := excB_ok x4
  have t_TooMany := excB_ok x5
  have t_BadSystem := excB_ok x6
  have t_NoLetter := excB_ok x7
  have t_NoPlace := excB_ok x8
  have t_DividedByNought := excB_ok x9
  have t_NoMark := excB_ok x10
  have t_LackingLetter := excB_ok x11
  have t_BadPoint := excB_ok x12
  have t_BadProgram := excB_ok x13
  have t_BadLot := excB_ok x14
  have t_BadPrefix := excB_ok x15
  have t_BadSaying := excB_ok x16
  have t_HasFree := excB_ok x17
  have t_ZeroNote := excB_ok x18
  have t_NotMonic := excB_ok x19
  have t_OtherLetters := excB_ok x20
  have t_NoneMarked := excB_ok x21
  have t_NoPoint := excB_ok x22
  refine ⟨{ a__law_start := He.ga K "_law_start", fd__law_start := fd__law_start, a__law_mixed := He.ga K "_law_mixed", fd__law_mixed := fd__law_mixed, a__law_draw := He.ga K "_law_draw", fd__law_draw := fd__law_draw, a__law_word := He.ga K "_law_word", fd__law_word := fd__law_word, a__law_gcd := He.ga K "_law_gcd", fd__law_gcd := fd__law_gcd, a__law_ratio := He.ga K "_law_ratio", fd__law_ratio := fd__law_ratio, a__law_small := He.ga K "_law_small", fd__law_small := fd__law_small, a__law_first := He.ga K "_law_first", fd__law_first := fd__law_first, a__law_second := He.ga K "_law_second", fd__law_second := fd__law_second, a__law_classes := He.ga K "_law_classes", fd__law_classes := fd__law_classes, a__law_raised := He.ga K "_law_raised", fd__law_raised := fd__law_raised, a_law := He.ga K "law", fd_law := fd_law, c_RootError := He.ga K "RootError", c_BadTower := He.ga K "BadTower", ai_BadTower := He.ma K (He.ga K "BadTower") "__init__", fi_BadTower := fi_BadTower, c_BadText := He.ga K "BadText", ai_BadText := He.ma K (He.ga K "BadText") "__init__", fi_BadText := fi_BadText, c_BadElement := He.ga K "BadElement", ai_BadElement := He.ma K (He.ga K "BadElement") "__init__", fi_BadElement := fi_BadElement, c_Pole := He.ga K "Pole", ai_Pole := He.ma K (He.ga K "Pole") "__init__", fi_Pole := fi_Pole, c_BadRatio := He.ga K "BadRatio", ai_BadRatio := He.ma K (He.ga K "BadRatio") "__init__", fi_BadRatio := fi_BadRatio, c_TooMany := He.ga K "TooMany", ai_TooMany := He.ma K (He.ga K "TooMany") "__init__", fi_TooMany := fi_TooMany, c_BadSystem := He.ga K "BadSystem", ai_BadSystem := He.ma K (He.ga K "BadSystem") "__init__", fi_BadSystem := fi_BadSystem, c_NoLetter := He.ga K "NoLetter", ai_NoLetter := He.ma K (He.ga K "NoLetter") "__init__", fi_NoLetter := fi_NoLetter, c_NoPlace := He.ga K "NoPlace", ai_NoPlace := He.ma K (He.ga K "NoPlace") "__init__", fi_NoPlace := fi_NoPlace, c_DividedByNought := He.ga K "DividedByNought", ai_DividedByNought := He.ma K (He.ga K "DividedByNought") "__init__", fi_DividedByNought := fi_DividedByNought, c_NoMark := He.ga K "NoMark", ai_NoMark := He.ma K (He.ga K "NoMark") "__init__", fi_NoMark := fi_NoMark, c_LackingLetter := He.ga K "LackingLetter", ai_LackingLetter := He.ma K (He.ga K "LackingLetter") "__init__", fi_LackingLetter := fi_LackingLetter, c_BadPoint := He.ga K "BadPoint", ai_BadPoint := He.ma K (He.ga K "BadPoint") "__init__", fi_BadPoint := fi_BadPoint, c_BadProgram := He.ga K "BadProgram", ai_BadProgram := He.ma K (He.ga K "BadProgram") "__init__", fi_BadProgram := fi_BadProgram, c_BadLot := He.ga K "BadLot", ai_BadLot := He.ma K (He.ga K "BadLot") "__init__", fi_BadLot := fi_BadLot, c_BadPrefix := He.ga K "BadPrefix", ai_BadPrefix := He.ma K (He.ga K "BadPrefix") "__init__", fi_BadPrefix := fi_BadPrefix, c_BadSaying := He.ga K "BadSaying", ai_BadSaying := He.ma K (He.ga K "BadSaying") "__init__", fi_BadSaying := fi_BadSaying, c_HasFree := He.ga K "HasFree", ai_HasFree := He.ma K (He.ga K "HasFree") "__init__", fi_HasFree := fi_HasFree, c_ZeroNote := He.ga K "ZeroNote", ai_ZeroNote := He.ma K (He.ga K "ZeroNote") "__init__", fi_ZeroNote := fi_ZeroNote, c_NotMonic := He.ga K "NotMonic", ai_NotMonic := He.ma K (He.ga K "NotMonic") "__init__", fi_NotMonic := fi_NotMonic, c_OtherLetters := He.ga K "OtherLetters", ai_OtherLetters := He.ma K (He.ga K "OtherLetters") "__init__", fi_OtherLetters := fi_OtherLetters, c_NoneMarked := He.ga K "NoneMarked", ai_NoneMarked := He.ma K (He.ga K "NoneMarked") "__init__", fi_NoneMarked := fi_NoneMarked, c_NotOne := He.ga K "NotOne", c_NoPoint := He.ga K "NoPoint", ai_NoPoint := He.ma K (He.ga K "NoPoint") "__init__", fi_NoPoint := fi_NoPoint, c_NoFree := He.ga K "NoFree" }, ?_, rfl, FunD.bindsA (ps := ["_law_script"]) F_law (fun _ _ _ _ _ _ us hl => match us, hl with | [_], _ => rfl)⟩
  exact {
    g__law_start := He.glo_ok X G (c.d.fact 0 (f := .glo "_law_start") rfl)
    F__law_start := funOf F__law_start
    b__law_start := (funOf F__law_start).binds (ps := ["_law_script"]) (fun _ _ _ _ _ _ us hl => match us, hl with | [_], _ => rfl)
    g__law_mixed := He.glo_ok X G (c.d.fact 1 (f := .glo "_law_mixed") rfl)
    F__law_mixed := funOf F__law_mixed
    b__law_mixed := (funOf F__law_mixed).binds (ps := ["_law_number", "_law_turn"]) (fun _ _ _ _ _ _ us hl => match us, hl with | [_, _], _ => rfl)
    g__law_draw := He.glo_ok X G (c.d.fact 2 (f := .glo "_law_draw") rfl)
    F__law_draw := funOf F__law_draw
    b__law_draw := (funOf F__law_draw).binds (ps := ["_law_hand", "_law_many"]) (fun _ _ _ _ _ _ us hl => match us, hl with | [_, _], _ => rfl)
    g__law_word := He.glo_ok X G (c.d.fact 3 (f := .glo "_law_word") rfl)
    F__law_word := funOf F__law_word
    b__law_word := (funOf F__law_word).binds (ps := ["_law_hand"]) (fun _ _ _ _ _ _ us hl => match us, hl with | [_], _ => rfl)
    g__law_gcd := He.glo_ok X G (c.d.fact 4 (f := .glo "_law_gcd") rfl)
    F__law_gcd := funOf F__law_gcd
    b__law_gcd := (funOf F__law_gcd).binds (ps := ["_law_a", "_law_b"]) (fun _ _ _ _ _ _ us hl => match us, hl with | [_, _], _ => rfl)
    g__law_ratio := He.glo_ok X G (c.d.fact 5 (f := .glo "_law_ratio") rfl)
    F__law_ratio := funOf F__law_ratio
    b__law_ratio := (funOf F__law_ratio).binds (ps := ["_law_top", "_law_bottom"]) (fun _ _ _ _ _ _ us hl => match us, hl with | [_, _], _ => rfl)
    g__law_small := He.glo_ok X G (c.d.fact 6 (f := .glo "_law_small") rfl)
    F__law_small := funOf F__law_small
    b__law_small := (funOf F__law_small).binds (ps := ["_law_hand"]) (fun _ _ _ _ _ _ us hl => match us, hl with | [_], _ => rfl)
    g__law_first := He.glo_ok X G (c.d.fact 7 (f := .glo "_law_first") rfl)
    F__law_first := funOf F__law_first
    b__law_first := (funOf F__law_first).binds (ps := ["_law_at", "_law_to", "_law_word_here", "_law_ratio_here"]) (fun _ _ _ _ _ _ us hl => match us, hl with | [_, _, _, _], _ => rfl)
    g__law_second := He.glo_ok X G (c.d.fact 8 (f := .glo "_law_second") rfl)
    F__law_second := funOf F__law_second
    b__law_second := (funOf F__law_second).binds (ps := ["_law_at", "_law_to", "_law_word_here", "_law_ratio_here"]) (fun _ _ _ _ _ _ us hl => match us, hl with | [_, _, _, _], _ => rfl)
    g__law_classes := He.glo_ok X G (c.d.fact 9 (f := .glo "_law_classes") rfl)
    F__law_classes := funOf F__law_classes
    b__law_classes := (funOf F__law_classes).binds (ps := ["_law_e"]) (fun _ _ _ _ _ _ us hl => match us, hl with | [_], _ => rfl)
    g__law_raised := He.glo_ok X G (c.d.fact 10 (f := .glo "_law_raised") rfl)
    F__law_raised := funOf F__law_raised
    b__law_raised := (funOf F__law_raised).binds (ps := ["_law_at", "_law_to", "_law_word_here"]) (fun _ _ _ _ _ _ us hl => match us, hl with | [_, _, _], _ => rfl)
    g_law := He.glo_ok X G (c.d.fact 11 (f := .glo "law") rfl)
    F_law := funOf F_law
    b_law := (funOf F_law).binds (ps := ["_law_script"]) (fun _ _ _ _ _ _ us hl => match us, hl with | [_], _ => rfl)
    g_RootError := He.glo_ok X G (c.d.fact 12 (f := .glo "RootError") rfl)
    ec_RootError := rfl
    xn_RootError := (He.ba x23).1
    xk_RootError := (He.ba x23).2
    g_BadTower := He.glo_ok X G (c.d.fact 13 (f := .glo "BadTower") rfl)
    ec_BadTower := rfl
    ox_BadTower := t_BadTower.ox
    i_BadTower := t_BadTower.i
    ti_BadTower := t_BadTower.ti
    Fi_BadTower := funOf Fi_BadTower
    no_BadTower := t_BadTower.no
    xf_BadTower := t_BadTower.xf
    bi_BadTower := (funOf Fi_BadTower).binds (ps := ["self", "what", "place"]) (fun _ _ _ _ _ _ us hl => match us, hl with | [_, _, _], _ => rfl)
    g_BadText := He.glo_ok X G (c.d.fact 14 (f := .glo "BadText") rfl)
    ec_BadText := rfl
    ox_BadText := t_BadText.ox
    i_BadText := t_BadText.i
    ti_BadText := t_BadText.ti
    Fi_BadText := funOf Fi_BadText
    no_BadText := t_BadText.no
    xf_BadText := t_BadText.xf
    bi_BadText := (funOf Fi_BadText).binds (ps := ["self", "line", "what"]) (fun _ _ _ _ _ _ us hl => match us, hl with | [_, _, _], _ => rfl)
    g_BadElement := He.glo_ok X G (c.d.fact 15 (f := .glo "BadElement") rfl)
    ec_BadElement := rfl
    ox_BadElement := t_BadElement.ox
    i_BadElement := t_BadElement.i
    ti_BadElement := t_BadElement.ti
    Fi_BadElement := funOf Fi_BadElement
    no_BadElement := t_BadElement.no
    xf_BadElement := t_BadElement.xf
    bi_BadElement := (funOf Fi_BadElement).binds (ps := ["self", "index"]) (fun _ _ _ _ _ _ us hl => match us, hl with | [_, _], _ => rfl)
    g_Pole := He.glo_ok X G (c.d.fact 16 (f := .glo "Pole") rfl)
    ec_Pole := rfl
    ox_Pole := t_Pole.ox
    i_Pole := t_Pole.i
    ti_Pole := t_Pole.ti
    Fi_Pole := funOf Fi_Pole
    no_Pole := t_Pole.no
    xf_Pole := t_Pole.xf
    bi_Pole := (funOf Fi_Pole).binds (ps := ["self", "at"]) (fun _ _ _ _ _ _ us hl => match us, hl with | [_, _], _ => rfl)
    g_BadRatio := He.glo_ok X G (c.d.fact 17 (f := .glo "BadRatio") rfl)
    ec_BadRatio := rfl
    ox_BadRatio := t_BadRatio.ox
    i_BadRatio := t_BadRatio.i
    ti_BadRatio := t_BadRatio.ti
    Fi_BadRatio := funOf Fi_BadRatio
    no_BadRatio := t_BadRatio.no
    xf_BadRatio := t_BadRatio.xf
    bi_BadRatio := (funOf Fi_BadRatio).binds (ps := ["self", "what"]) (fun _ _ _ _ _ _ us hl => match us, hl with | [_, _], _ => rfl)
    g_TooMany := He.glo_ok X G (c.d.fact 18 (f := .glo "TooMany") rfl)
    ec_TooMany := rfl
    ox_TooMany := t_TooMany.ox
    i_TooMany := t_TooMany.i
    ti_TooMany := t_TooMany.ti
    Fi_TooMany := funOf Fi_TooMany
    no_TooMany := t_TooMany.no
    xf_TooMany := t_TooMany.xf
    bi_TooMany := (funOf Fi_TooMany).binds (ps := ["self", "most"]) (fun _ _ _ _ _ _ us hl => match us, hl with | [_, _], _ => rfl)
    g_BadSystem := He.glo_ok X G (c.d.fact 19 (f := .glo "BadSystem") rfl)
    ec_BadSystem := rfl
    ox_BadSystem := t_BadSystem.ox
    i_BadSystem := t_BadSystem.i
    ti_BadSystem := t_BadSystem.ti
    Fi_BadSystem := funOf Fi_BadSystem
    no_BadSystem := t_BadSystem.no
    xf_BadSystem := t_BadSystem.xf
    bi_BadSystem := (funOf Fi_BadSystem).binds (ps := ["self", "what", "place"]) (fun _ _ _ _ _ _ us hl => match us, hl with | [_, _, _], _ => rfl)
    g_NoLetter := He.glo_ok X G (c.d.fact 20 (f := .glo "NoLetter") rfl)
    ec_NoLetter := rfl
    ox_NoLetter := t_NoLetter.ox
    i_NoLetter := t_NoLetter.i
    ti_NoLetter := t_NoLetter.ti
    Fi_NoLetter := funOf Fi_NoLetter
    no_NoLetter := t_NoLetter.no
    xf_NoLetter := t_NoLetter.xf
    bi_NoLetter := (funOf Fi_NoLetter).binds (ps := ["self", "letter"]) (fun _ _ _ _ _ _ us hl => match us, hl with | [_, _], _ => rfl)
    g_NoPlace := He.glo_ok X G (c.d.fact 21 (f := .glo "NoPlace") rfl)
    ec_NoPlace := rfl
    ox_NoPlace := t_NoPlace.ox
    i_NoPlace := t_NoPlace.i
    ti_NoPlace := t_NoPlace.ti
    Fi_NoPlace := funOf Fi_NoPlace
    no_NoPlace := t_NoPlace.no
    xf_NoPlace := t_NoPlace.xf
    bi_NoPlace := (funOf Fi_NoPlace).binds (ps := ["self", "place"]) (fun _ _ _ _ _ _ us hl => match us, hl with | [_, _], _ => rfl)
    g_DividedByNought := He.glo_ok X G (c.d.fact 22 (f := .glo "DividedByNought") rfl)
    ec_DividedByNought := rfl
    ox_DividedByNought := t_DividedByNought.ox
    i_DividedByNought := t_DividedByNought.i
    ti_DividedByNought := t_DividedByNought.ti
    Fi_DividedByNought := funOf Fi_DividedByNought
    no_DividedByNought := t_DividedByNought.no
    xf_DividedByNought := t_DividedByNought.xf
    bi_DividedByNought := (funOf Fi_DividedByNought).binds (ps := ["self"]) (fun _ _ _ _ _ _ us hl => match us, hl with | [_], _ => rfl)
    g_NoMark := He.glo_ok X G (c.d.fact 23 (f := .glo "NoMark") rfl)
    ec_NoMark := rfl
    ox_NoMark := t_NoMark.ox
    i_NoMark := t_NoMark.i
    ti_NoMark := t_NoMark.ti
    Fi_NoMark := funOf Fi_NoMark
    no_NoMark := t_NoMark.no
    xf_NoMark := t_NoMark.xf
    bi_NoMark := (funOf Fi_NoMark).binds (ps := ["self", "mark"]) (fun _ _ _ _ _ _ us hl => match us, hl with | [_, _], _ => rfl)
    g_LackingLetter := He.glo_ok X G (c.d.fact 24 (f := .glo "LackingLetter") rfl)
    ec_LackingLetter := rfl
    ox_LackingLetter := t_LackingLetter.ox
    i_LackingLetter := t_LackingLetter.i
    ti_LackingLetter := t_LackingLetter.ti
    Fi_LackingLetter := funOf Fi_LackingLetter
    no_LackingLetter := t_LackingLetter.no
    xf_LackingLetter := t_LackingLetter.xf
    bi_LackingLetter := (funOf Fi_LackingLetter).binds (ps := ["self", "letter"]) (fun _ _ _ _ _ _ us hl => match us, hl with | [_, _], _ => rfl)
    g_BadPoint := He.glo_ok X G (c.d.fact 25 (f := .glo "BadPoint") rfl)
    ec_BadPoint := rfl
    ox_BadPoint := t_BadPoint.ox
    i_BadPoint := t_BadPoint.i
    ti_BadPoint := t_BadPoint.ti
    Fi_BadPoint := funOf Fi_BadPoint
    no_BadPoint := t_BadPoint.no
    xf_BadPoint := t_BadPoint.xf
    bi_BadPoint := (funOf Fi_BadPoint).binds (ps := ["self", "index", "what"]) (fun _ _ _ _ _ _ us hl => match us, hl with | [_, _, _], _ => rfl)
    g_BadProgram := He.glo_ok X G (c.d.fact 26 (f := .glo "BadProgram") rfl)
    ec_BadProgram := rfl
    ox_BadProgram := t_BadProgram.ox
    i_BadProgram := t_BadProgram.i
    ti_BadProgram := t_BadProgram.ti
    Fi_BadProgram := funOf Fi_BadProgram
    no_BadProgram := t_BadProgram.no
    xf_BadProgram := t_BadProgram.xf
    bi_BadProgram := (funOf Fi_BadProgram).binds (ps := ["self", "line", "what"]) (fun _ _ _ _ _ _ us hl => match us, hl with | [_, _, _], _ => rfl)
    g_BadLot := He.glo_ok X G (c.d.fact 27 (f := .glo "BadLot") rfl)
    ec_BadLot := rfl
    ox_BadLot := t_BadLot.ox
    i_BadLot := t_BadLot.i
    ti_BadLot := t_BadLot.ti
    Fi_BadLot := funOf Fi_BadLot
    no_BadLot := t_BadLot.no
    xf_BadLot := t_BadLot.xf
    bi_BadLot := (funOf Fi_BadLot).binds (ps := ["self", "what"]) (fun _ _ _ _ _ _ us hl => match us, hl with | [_, _], _ => rfl)
    g_BadPrefix := He.glo_ok X G (c.d.fact 28 (f := .glo "BadPrefix") rfl)
    ec_BadPrefix := rfl
    ox_BadPrefix := t_BadPrefix.ox
    i_BadPrefix := t_BadPrefix.i
    ti_BadPrefix := t_BadPrefix.ti
    Fi_BadPrefix := funOf Fi_BadPrefix
    no_BadPrefix := t_BadPrefix.no
    xf_BadPrefix := t_BadPrefix.xf
    bi_BadPrefix := (funOf Fi_BadPrefix).binds (ps := ["self", "many"]) (fun _ _ _ _ _ _ us hl => match us, hl with | [_, _], _ => rfl)
    g_BadSaying := He.glo_ok X G (c.d.fact 29 (f := .glo "BadSaying") rfl)
    ec_BadSaying := rfl
    ox_BadSaying := t_BadSaying.ox
    i_BadSaying := t_BadSaying.i
    ti_BadSaying := t_BadSaying.ti
    Fi_BadSaying := funOf Fi_BadSaying
    no_BadSaying := t_BadSaying.no
    xf_BadSaying := t_BadSaying.xf
    bi_BadSaying := (funOf Fi_BadSaying).binds (ps := ["self", "what"]) (fun _ _ _ _ _ _ us hl => match us, hl with | [_, _], _ => rfl)
    g_HasFree := He.glo_ok X G (c.d.fact 30 (f := .glo "HasFree") rfl)
    ec_HasFree := rfl
    ox_HasFree := t_HasFree.ox
    i_HasFree := t_HasFree.i
    ti_HasFree := t_HasFree.ti
    Fi_HasFree := funOf Fi_HasFree
    no_HasFree := t_HasFree.no
    xf_HasFree := t_HasFree.xf
    bi_HasFree := (funOf Fi_HasFree).binds (ps := ["self"]) (fun _ _ _ _ _ _ us hl => match us, hl with | [_], _ => rfl)
    g_ZeroNote := He.glo_ok X G (c.d.fact 31 (f := .glo "ZeroNote") rfl)
    ec_ZeroNote := rfl
    ox_ZeroNote := t_ZeroNote.ox
    i_ZeroNote := t_ZeroNote.i
    ti_ZeroNote := t_ZeroNote.ti
    Fi_ZeroNote := funOf Fi_ZeroNote
    no_ZeroNote := t_ZeroNote.no
    xf_ZeroNote := t_ZeroNote.xf
    bi_ZeroNote := (funOf Fi_ZeroNote).binds (ps := ["self"]) (fun _ _ _ _ _ _ us hl => match us, hl with | [_], _ => rfl)
    g_NotMonic := He.glo_ok X G (c.d.fact 32 (f := .glo "NotMonic") rfl)
    ec_NotMonic := rfl
    ox_NotMonic := t_NotMonic.ox
    i_NotMonic := t_NotMonic.i
    ti_NotMonic := t_NotMonic.ti
    Fi_NotMonic := funOf Fi_NotMonic
    no_NotMonic := t_NotMonic.no
    xf_NotMonic := t_NotMonic.xf
    bi_NotMonic := (funOf Fi_NotMonic).binds (ps := ["self"]) (fun _ _ _ _ _ _ us hl => match us, hl with | [_], _ => rfl)
    g_OtherLetters := He.glo_ok X G (c.d.fact 33 (f := .glo "OtherLetters") rfl)
    ec_OtherLetters := rfl
    ox_OtherLetters := t_OtherLetters.ox
    i_OtherLetters := t_OtherLetters.i
    ti_OtherLetters := t_OtherLetters.ti
    Fi_OtherLetters := funOf Fi_OtherLetters
    no_OtherLetters := t_OtherLetters.no
    xf_OtherLetters := t_OtherLetters.xf
    bi_OtherLetters := (funOf Fi_OtherLetters).binds (ps := ["self"]) (fun _ _ _ _ _ _ us hl => match us, hl with | [_], _ => rfl)
    g_NoneMarked := He.glo_ok X G (c.d.fact 34 (f := .glo "NoneMarked") rfl)
    ec_NoneMarked := rfl
    ox_NoneMarked := t_NoneMarked.ox
    i_NoneMarked := t_NoneMarked.i
    ti_NoneMarked := t_NoneMarked.ti
    Fi_NoneMarked := funOf Fi_NoneMarked
    no_NoneMarked := t_NoneMarked.no
    xf_NoneMarked := t_NoneMarked.xf
    bi_NoneMarked := (funOf Fi_NoneMarked).binds (ps := ["self"]) (fun _ _ _ _ _ _ us hl => match us, hl with | [_], _ => rfl)
    g_NotOne := He.glo_ok X G (c.d.fact 35 (f := .glo "NotOne") rfl)
    ec_NotOne := rfl
    xn_NotOne := (He.ba x24).1
    xk_NotOne := (He.ba x24).2
    g_NoPoint := He.glo_ok X G (c.d.fact 36 (f := .glo "NoPoint") rfl)
    ec_NoPoint := rfl
    ox_NoPoint := t_NoPoint.ox
    i_NoPoint := t_NoPoint.i
    ti_NoPoint := t_NoPoint.ti
    Fi_NoPoint := funOf Fi_NoPoint
    no_NoPoint := t_NoPoint.no
    xf_NoPoint := t_NoPoint.xf
    bi_NoPoint := (funOf Fi_NoPoint).binds (ps := ["self"]) (fun _ _ _ _ _ _ us hl => match us, hl with | [_], _ => rfl)
    g_NoFree := He.glo_ok X G (c.d.fact 37 (f := .glo "NoFree") rfl)
    ec_NoFree := rfl
    xn_NoFree := (He.ba x25).1
    xk_NoFree := (He.ba x25).2
    isA_RootError := by
      intro e b h
      unfold isA_RootError at h
      split at h
      · cases h; exact He.exm_ok (c.d.fact 38 (f := .exm "RootError" "RootError" true) rfl)
      · cases h; exact He.exm_ok (c.d.fact 39 (f := .exm "BadTower" "RootError" true) rfl)
      · cases h; exact He.exm_ok (c.d.fact 40 (f := .exm "BadText" "RootError" true) rfl)
      · cases h; exact He.exm_ok (c.d.fact 41 (f := .exm "BadElement" "RootError" true) rfl)
      · cases h; exact He.exm_ok (c.d.fact 42 (f := .exm "Pole" "RootError" true) rfl)
      · cases h; exact He.exm_ok (c.d.fact 43 (f := .exm "BadRatio" "RootError" true) rfl)
      · cases h; exact He.exm_ok (c.d.fact 44 (f := .exm "TooMany" "RootError" true) rfl)
      · cases h; exact He.exm_ok (c.d.fact 45 (f := .exm "BadSystem" "RootError" true) rfl)
      · cases h; exact He.exm_ok (c.d.fact 46 (f := .exm "NoLetter" "RootError" true) rfl)
      · cases h; exact He.exm_ok (c.d.fact 47 (f := .exm "NoPlace" "RootError" true) rfl)
      · cases h; exact He.exm_ok (c.d.fact 48 (f := .exm "DividedByNought" "RootError" true) rfl)
      · cases h; exact He.exm_ok (c.d.fact 49 (f := .exm "NoMark" "RootError" true) rfl)
      · cases h; exact He.exm_ok (c.d.fact 50 (f := .exm "LackingLetter" "RootError" true) rfl)
      · cases h; exact He.exm_ok (c.d.fact 51 (f := .exm "BadPoint" "RootError" true) rfl)
      · cases h; exact He.exm_ok (c.d.fact 52 (f := .exm "BadProgram" "RootError" true) rfl)
      · cases h; exact He.exm_ok (c.d.fact 53 (f := .exm "BadLot" "RootError" true) rfl)
      · cases h; exact He.exm_ok (c.d.fact 54 (f := .exm "BadPrefix" "RootError" true) rfl)
      · cases h; exact He.exm_ok (c.d.fact 55 (f := .exm "BadSaying" "RootError" true) rfl)
      · cases h; exact He.exm_ok (c.d.fact 56 (f := .exm "HasFree" "RootError" true) rfl)
      · cases h; exact He.exm_ok (c.d.fact 57 (f := .exm "ZeroNote" "RootError" true) rfl)
      · cases h; exact He.exm_ok (c.d.fact 58 (f := .exm "NotMonic" "RootError" true) rfl)
      · cases h; exact He.exm_ok (c.d.fact 59 (f := .exm "OtherLetters" "RootError" true) rfl)
      · cases h; exact He.exm_ok (c.d.fact 60 (f := .exm "NoneMarked" "RootError" true) rfl)
      · cases h; exact He.exm_ok (c.d.fact 61 (f := .exm "NotOne" "RootError" true) rfl)
      · cases h; exact He.exm_ok (c.d.fact 62 (f := .exm "NoPoint" "RootError" true) rfl)
      · cases h; exact He.exm_ok (c.d.fact 63 (f := .exm "NoFree" "RootError" true) rfl)
      · cases h
    isA_NoPoint := by
      intro e b h
      unfold isA_NoPoint at h
      split at h
      · cases h; exact He.exm_ok (c.d.fact 64 (f := .exm "RootError" "NoPoint" false) rfl)
      · cases h; exact He.exm_ok (c.d.fact 65 (f := .exm "BadTower" "NoPoint" false) rfl)
      · cases h; exact He.exm_ok (c.d.fact 66 (f := .exm "BadText" "NoPoint" false) rfl)
      · cases h; exact He.exm_ok (c.d.fact 67 (f := .exm "BadElement" "NoPoint" false) rfl)
      · cases h; exact He.exm_ok (c.d.fact 68 (f := .exm "Pole" "NoPoint" false) rfl)
      · cases h; exact He.exm_ok (c.d.fact 69 (f := .exm "BadRatio" "NoPoint" false) rfl)
      · cases h; exact He.exm_ok (c.d.fact 70 (f := .exm "TooMany" "NoPoint" false) rfl)
      · cases h; exact He.exm_ok (c.d.fact 71 (f := .exm "BadSystem" "NoPoint" false) rfl)
      · cases h; exact He.exm_ok (c.d.fact 72 (f := .exm "NoLetter" "NoPoint" false) rfl)
      · cases h; exact He.exm_ok (c.d.fact 73 (f := .exm "NoPlace" "NoPoint" false) rfl)
      · cases h; exact He.exm_ok (c.d.fact 74 (f := .exm "DividedByNought" "NoPoint" false) rfl)
      · cases h; exact He.exm_ok (c.d.fact 75 (f := .exm "NoMark" "NoPoint" false) rfl)
      · cases h; exact He.exm_ok (c.d.fact 76 (f := .exm "LackingLetter" "NoPoint" false) rfl)
      · cases h; exact He.exm_ok (c.d.fact 77 (f := .exm "BadPoint" "NoPoint" false) rfl)
      · cases h; exact He.exm_ok (c.d.fact 78 (f := .exm "BadProgram" "NoPoint" false) rfl)
      · cases h; exact He.exm_ok (c.d.fact 79 (f := .exm "BadLot" "NoPoint" false) rfl)
      · cases h; exact He.exm_ok (c.d.fact 80 (f := .exm "BadPrefix" "NoPoint" false) rfl)
      · cases h; exact He.exm_ok (c.d.fact 81 (f := .exm "BadSaying" "NoPoint" false) rfl)
      · cases h; exact He.exm_ok (c.d.fact 82 (f := .exm "HasFree" "NoPoint" false) rfl)
      · cases h; exact He.exm_ok (c.d.fact 83 (f := .exm "ZeroNote" "NoPoint" false) rfl)
      · cases h; exact He.exm_ok (c.d.fact 84 (f := .exm "NotMonic" "NoPoint" false) rfl)
      · cases h; exact He.exm_ok (c.d.fact 85 (f := .exm "OtherLetters" "NoPoint" false) rfl)
      · cases h; exact He.exm_ok (c.d.fact 86 (f := .exm "NoneMarked" "NoPoint" false) rfl)
      · cases h; exact He.exm_ok (c.d.fact 87 (f := .exm "NotOne" "NoPoint" false) rfl)
      · cases h; exact He.exm_ok (c.d.fact 88 (f := .exm "NoPoint" "NoPoint" true) rfl)
      · cases h; exact He.exm_ok (c.d.fact 89 (f := .exm "NoFree" "NoPoint" false) rfl)
      · cases h
    isA_BadText := by
      intro e b h
      unfold isA_BadText at h
      split at h
      · cases h; exact He.exm_ok (c.d.fact 90 (f := .exm "RootError" "BadText" false) rfl)
      · cases h; exact He.exm_ok (c.d.fact 91 (f := .exm "BadTower" "BadText" false) rfl)
      · cases h; exact He.exm_ok (c.d.fact 92 (f := .exm "BadText" "BadText" true) rfl)
      · cases h; exact He.exm_ok (c.d.fact 93 (f := .exm "BadElement" "BadText" false) rfl)
      · cases h; exact He.exm_ok (c.d.fact 94 (f := .exm "Pole" "BadText" false) rfl)
      · cases h; exact He.exm_ok (c.d.fact 95 (f := .exm "BadRatio" "BadText" false) rfl)
      · cases h; exact He.exm_ok (c.d.fact 96 (f := .exm "TooMany" "BadText" false) rfl)
      · cases h; exact He.exm_ok (c.d.fact 97 (f := .exm "BadSystem" "BadText" false) rfl)
      · cases h; exact He.exm_ok (c.d.fact 98 (f := .exm "NoLetter" "BadText" false) rfl)
      · cases h; exact He.exm_ok (c.d.fact 99 (f := .exm "NoPlace" "BadText" false) rfl)
      · cases h; exact He.exm_ok (c.d.fact 100 (f := .exm "DividedByNought" "BadText" false) rfl)
      · cases h; exact He.exm_ok (c.d.fact 101 (f := .exm "NoMark" "BadText" false) rfl)
      · cases h; exact He.exm_ok (c.d.fact 102 (f := .exm "LackingLetter" "BadText" false) rfl)
      · cases h; exact He.exm_ok (c.d.fact 103 (f := .exm "BadPoint" "BadText" false) rfl)
      · cases h; exact He.exm_ok (c.d.fact 104 (f := .exm "BadProgram" "BadText" false) rfl)
      · cases h; exact He.exm_ok (c.d.fact 105 (f := .exm "BadLot" "BadText" false) rfl)
      · cases h; exact He.exm_ok (c.d.fact 106 (f := .exm "BadPrefix" "BadText" false) rfl)
      · cases h; exact He.exm_ok (c.d.fact 107 (f := .exm "BadSaying" "BadText" false) rfl)
      · cases h; exact He.exm_ok (c.d.fact 108 (f := .exm "HasFree" "BadText" false) rfl)
      · cases h; exact He.exm_ok (c.d.fact 109 (f := .exm "ZeroNote" "BadText" false) rfl)
      · cases h; exact He.exm_ok (c.d.fact 110 (f := .exm "NotMonic" "BadText" false) rfl)
      · cases h; exact He.exm_ok (c.d.fact 111 (f := .exm "OtherLetters" "BadText" false) rfl)
      · cases h; exact He.exm_ok (c.d.fact 112 (f := .exm "NoneMarked" "BadText" false) rfl)
      · cases h; exact He.exm_ok (c.d.fact 113 (f := .exm "NotOne" "BadText" false) rfl)
      · cases h; exact He.exm_ok (c.d.fact 114 (f := .exm "NoPoint" "BadText" false) rfl)
      · cases h; exact He.exm_ok (c.d.fact 115 (f := .exm "NoFree" "BadText" false) rfl)
      · cases h
    isA_BadTower := by
      intro e b h
      unfold isA_BadTower at h
      split at h
      · cases h; exact He.exm_ok (c.d.fact 116 (f := .exm "RootError" "BadTower" false) rfl)
      · cases h; exact He.exm_ok (c.d.fact 117 (f := .exm "BadTower" "BadTower" true) rfl)
      · cases h; exact He.exm_ok (c.d.fact 118 (f := .exm "BadText" "BadTower" false) rfl)
      · cases h; exact He.exm_ok (c.d.fact 119 (f := .exm "BadElement" "BadTower" false) rfl)
      · cases h; exact He.exm_ok (c.d.fact 120 (f := .exm "Pole" "BadTower" false) rfl)
      · cases h; exact He.exm_ok (c.d.fact 121 (f := .exm "BadRatio" "BadTower" false) rfl)
      · cases h; exact He.exm_ok (c.d.fact 122 (f := .exm "TooMany" "BadTower" false) rfl)
      · cases h; exact He.exm_ok (c.d.fact 123 (f := .exm "BadSystem" "BadTower" false) rfl)
      · cases h; exact He.exm_ok (c.d.fact 124 (f := .exm "NoLetter" "BadTower" false) rfl)
      · cases h; exact He.exm_ok (c.d.fact 125 (f := .exm "NoPlace" "BadTower" false) rfl)
      · cases h; exact He.exm_ok (c.d.fact 126 (f := .exm "DividedByNought" "BadTower" false) rfl)
      · cases h; exact He.exm_ok (c.d.fact 127 (f := .exm "NoMark" "BadTower" false) rfl)
      · cases h; exact He.exm_ok (c.d.fact 128 (f := .exm "LackingLetter" "BadTower" false) rfl)
      · cases h; exact He.exm_ok (c.d.fact 129 (f := .exm "BadPoint" "BadTower" false) rfl)
      · cases h; exact He.exm_ok (c.d.fact 130 (f := .exm "BadProgram" "BadTower" false) rfl)
      · cases h; exact He.exm_ok (c.d.fact 131 (f := .exm "BadLot" "BadTower" false) rfl)
      · cases h; exact He.exm_ok (c.d.fact 132 (f := .exm "BadPrefix" "BadTower" false) rfl)
      · cases h; exact He.exm_ok (c.d.fact 133 (f := .exm "BadSaying" "BadTower" false) rfl)
      · cases h; exact He.exm_ok (c.d.fact 134 (f := .exm "HasFree" "BadTower" false) rfl)
      · cases h; exact He.exm_ok (c.d.fact 135 (f := .exm "ZeroNote" "BadTower" false) rfl)
      · cases h; exact He.exm_ok (c.d.fact 136 (f := .exm "NotMonic" "BadTower" false) rfl)
      · cases h; exact He.exm_ok (c.d.fact 137 (f := .exm "OtherLetters" "BadTower" false) rfl)
      · cases h; exact He.exm_ok (c.d.fact 138 (f := .exm "NoneMarked" "BadTower" false) rfl)
      · cases h; exact He.exm_ok (c.d.fact 139 (f := .exm "NotOne" "BadTower" false) rfl)
      · cases h; exact He.exm_ok (c.d.fact 140 (f := .exm "NoPoint" "BadTower" false) rfl)
      · cases h; exact He.exm_ok (c.d.fact 141 (f := .exm "NoFree" "BadTower" false) rfl)
      · cases h
    isA_BadSystem := by
      intro e b h
      unfold isA_BadSystem at h
      split at h
      · cases h; exact He.exm_ok (c.d.fact 142 (f := .exm "RootError" "BadSystem" false) rfl)
      · cases h; exact He.exm_ok (c.d.fact 143 (f := .exm "BadTower" "BadSystem" false) rfl)
      · cases h; exact He.exm_ok (c.d.fact 144 (f := .exm "BadText" "BadSystem" false) rfl)
      · cases h; exact He.exm_ok (c.d.fact 145 (f := .exm "BadElement" "BadSystem" false) rfl)
      · cases h; exact He.exm_ok (c.d.fact 146 (f := .exm "Pole" "BadSystem" false) rfl)
      · cases h; exact He.exm_ok (c.d.fact 147 (f := .exm "BadRatio" "BadSystem" false) rfl)
      · cases h; exact He.exm_ok (c.d.fact 148 (f := .exm "TooMany" "BadSystem" false) rfl)
      · cases h; exact He.exm_ok (c.d.fact 149 (f := .exm "BadSystem" "BadSystem" true) rfl)
      · cases h; exact He.exm_ok (c.d.fact 150 (f := .exm "NoLetter" "BadSystem" false) rfl)
      · cases h; exact He.exm_ok (c.d.fact 151 (f := .exm "NoPlace" "BadSystem" false) rfl)
      · cases h; exact He.exm_ok (c.d.fact 152 (f := .exm "DividedByNought" "BadSystem" false) rfl)
      · cases h; exact He.exm_ok (c.d.fact 153 (f := .exm "NoMark" "BadSystem" false) rfl)
      · cases h; exact He.exm_ok (c.d.fact 154 (f := .exm "LackingLetter" "BadSystem" false) rfl)
      · cases h; exact He.exm_ok (c.d.fact 155 (f := .exm "BadPoint" "BadSystem" false) rfl)
      · cases h; exact He.exm_ok (c.d.fact 156 (f := .exm "BadProgram" "BadSystem" false) rfl)
      · cases h; exact He.exm_ok (c.d.fact 157 (f := .exm "BadLot" "BadSystem" false) rfl)
      · cases h; exact He.exm_ok (c.d.fact 158 (f := .exm "BadPrefix" "BadSystem" false) rfl)
      · cases h; exact He.exm_ok (c.d.fact 159 (f := .exm "BadSaying" "BadSystem" false) rfl)
      · cases h; exact He.exm_ok (c.d.fact 160 (f := .exm "HasFree" "BadSystem" false) rfl)
      · cases h; exact He.exm_ok (c.d.fact 161 (f := .exm "ZeroNote" "BadSystem" false) rfl)
      · cases h; exact He.exm_ok (c.d.fact 162 (f := .exm "NotMonic" "BadSystem" false) rfl)
      · cases h; exact He.exm_ok (c.d.fact 163 (f := .exm "OtherLetters" "BadSystem" false) rfl)
      · cases h; exact He.exm_ok (c.d.fact 164 (f := .exm "NoneMarked" "BadSystem" false) rfl)
      · cases h; exact He.exm_ok (c.d.fact 165 (f := .exm "NotOne" "BadSystem" false) rfl)
      · cases h; exact He.exm_ok (c.d.fact 166 (f := .exm "NoPoint" "BadSystem" false) rfl)
      · cases h; exact He.exm_ok (c.d.fact 167 (f := .exm "NoFree" "BadSystem" false) rfl)
      · cases h
    isV_RootError := tabB_ok x26 x27 (by decide +kernel)
    isV_ValueError := tabB_ok x26 x28 (by decide +kernel)
    isV_LookupError := tabB_ok x26 x29 (by decide +kernel)
    isV_ArithmeticError := tabB_ok x26 x30 (by decide +kernel)
    isV_BadElement := tabB_ok x26 x31 (by decide +kernel)
    isV_Pole := tabB_ok x26 x32 (by decide +kernel)
    isV_DividedByNought := tabB_ok x26 x33 (by decide +kernel)
    isV_BadRatio := tabB_ok x26 x34 (by decide +kernel)
    isV_NoLetter := tabB_ok x26 x35 (by decide +kernel)
    isV_NoPlace := tabB_ok x26 x36 (by decide +kernel)
    isV_BadTower := tabB_ok x26 x37 (by decide +kernel)
    isV_BadText := tabB_ok x26 x38 (by decide +kernel)
    isV_NotMonic := tabB_ok x26 x39 (by decide +kernel)
    isV_OtherLetters := tabB_ok x26 x40 (by decide +kernel)
    isV_TooMany := tabB_ok x26 x41 (by decide +kernel)
    isV_BadSystem := tabB_ok x26 x42 (by decide +kernel)
    isV_BadPoint := tabB_ok x26 x43 (by decide +kernel)
    isV_BadProgram := tabB_ok x26 x44 (by decide +kernel)
    isV_HasFree := tabB_ok x26 x45 (by decide +kernel)
    isV_ZeroNote := tabB_ok x26 x46 (by decide +kernel)
    isV_NoMark := tabB_ok x26 x47 (by decide +kernel)
    isV_NotOne := tabB_ok x26 x48 (by decide +kernel)
    isV_NoPoint := tabB_ok x26 x49 (by decide +kernel)
    isV_LackingLetter := tabB_ok x26 x50 (by decide +kernel)
    isV_BadLot := tabB_ok x26 x51 (by decide +kernel)
    isV_BadPrefix := tabB_ok x26 x52 (by decide +kernel)
    isV_BadSaying := tabB_ok x26 x53 (by decide +kernel)
    isV_NoneMarked := tabB_ok x26 x54 (by decide +kernel)
    isV_NoFree := tabB_ok x26 x55 (by decide +kernel)
    isS_BadTower := by
      intro e b h
      unfold isS_BadTower at h
      split at h
      · cases h; exact tabB_ok x26 x56 (by decide +kernel) "RootError" _ (by decide +kernel)
      · cases h; exact tabB_ok x26 x56 (by decide +kernel) "BadTower" _ (by decide +kernel)
      · cases h; exact tabB_ok x26 x56 (by decide +kernel) "BadText" _ (by decide +kernel)
      · cases h; exact tabB_ok x26 x56 (by decide +kernel) "BadElement" _ (by decide +kernel)
      · cases h; exact tabB_ok x26 x56 (by decide +kernel) "Pole" _ (by decide +kernel)
      · cases h; exact tabB_ok x26 x56 (by decide +kernel) "BadRatio" _ (by decide +kernel)
      · cases h; exact tabB_ok x26 x56 (by decide +kernel) "TooMany" _ (by decide +kernel)
      · cases h; exact tabB_ok x26 x56 (by decide +kernel) "BadSystem" _ (by decide +kernel)
      · cases h; exact tabB_ok x26 x56 (by decide +kernel) "NoLetter" _ (by decide +kernel)
      · cases h; exact tabB_ok x26 x56 (by decide +kernel) "NoPlace" _ (by decide +kernel)
      · cases h; exact tabB_ok x26 x56 (by decide +kernel) "DividedByNought" _ (by decide +kernel)
      · cases h; exact tabB_ok x26 x56 (by decide +kernel) "NoMark" _ (by decide +kernel)
      · cases h; exact tabB_ok x26 x56 (by decide +kernel) "LackingLetter" _ (by decide +kernel)
      · cases h; exact tabB_ok x26 x56 (by decide +kernel) "BadPoint" _ (by decide +kernel)
      · cases h; exact tabB_ok x26 x56 (by decide +kernel) "BadProgram" _ (by decide +kernel)
      · cases h; exact tabB_ok x26 x56 (by decide +kernel) "BadLot" _ (by decide +kernel)
      · cases h; exact tabB_ok x26 x56 (by decide +kernel) "BadPrefix" _ (by decide +kernel)
      · cases h; exact tabB_ok x26 x56 (by decide +kernel) "BadSaying" _ (by decide +kernel)
      · cases h; exact tabB_ok x26 x56 (by decide +kernel) "HasFree" _ (by decide +kernel)
      · cases h; exact tabB_ok x26 x56 (by decide +kernel) "ZeroNote" _ (by decide +kernel)
      · cases h; exact tabB_ok x26 x56 (by decide +kernel) "NotMonic" _ (by decide +kernel)
      · cases h; exact tabB_ok x26 x56 (by decide +kernel) "OtherLetters" _ (by decide +kernel)
      · cases h; exact tabB_ok x26 x56 (by decide +kernel) "NoneMarked" _ (by decide +kernel)
      · cases h; exact tabB_ok x26 x56 (by decide +kernel) "NotOne" _ (by decide +kernel)
      · cases h; exact tabB_ok x26 x56 (by decide +kernel) "NoPoint" _ (by decide +kernel)
      · cases h; exact tabB_ok x26 x56 (by decide +kernel) "NoFree" _ (by decide +kernel)
      · cases h
    isS_BadSystem := by
      intro e b h
      unfold isS_BadSystem at h
      split at h
      · cases h; exact tabB_ok x26 x57 (by decide +kernel) "RootError" _ (by decide +kernel)
      · cases h; exact tabB_ok x26 x57 (by decide +kernel) "BadTower" _ (by decide +kernel)
      · cases h; exact tabB_ok x26 x57 (by decide +kernel) "BadText" _ (by decide +kernel)
      · cases h; exact tabB_ok x26 x57 (by decide +kernel) "BadElement" _ (by decide +kernel)
      · cases h; exact tabB_ok x26 x57 (by decide +kernel) "Pole" _ (by decide +kernel)
      · cases h; exact tabB_ok x26 x57 (by decide +kernel) "BadRatio" _ (by decide +kernel)
      · cases h; exact tabB_ok x26 x57 (by decide +kernel) "TooMany" _ (by decide +kernel)
      · cases h; exact tabB_ok x26 x57 (by decide +kernel) "BadSystem" _ (by decide +kernel)
      · cases h; exact tabB_ok x26 x57 (by decide +kernel) "NoLetter" _ (by decide +kernel)
      · cases h; exact tabB_ok x26 x57 (by decide +kernel) "NoPlace" _ (by decide +kernel)
      · cases h; exact tabB_ok x26 x57 (by decide +kernel) "DividedByNought" _ (by decide +kernel)
      · cases h; exact tabB_ok x26 x57 (by decide +kernel) "NoMark" _ (by decide +kernel)
      · cases h; exact tabB_ok x26 x57 (by decide +kernel) "LackingLetter" _ (by decide +kernel)
      · cases h; exact tabB_ok x26 x57 (by decide +kernel) "BadPoint" _ (by decide +kernel)
      · cases h; exact tabB_ok x26 x57 (by decide +kernel) "BadProgram" _ (by decide +kernel)
      · cases h; exact tabB_ok x26 x57 (by decide +kernel) "BadLot" _ (by decide +kernel)
      · cases h; exact tabB_ok x26 x57 (by decide +kernel) "BadPrefix" _ (by decide +kernel)
      · cases h; exact tabB_ok x26 x57 (by decide +kernel) "BadSaying" _ (by decide +kernel)
      · cases h; exact tabB_ok x26 x57 (by decide +kernel) "HasFree" _ (by decide +kernel)
      · cases h; exact tabB_ok x26 x57 (by decide +kernel) "ZeroNote" _ (by decide +kernel)
      · cases h; exact tabB_ok x26 x57 (by decide +kernel) "NotMonic" _ (by decide +kernel)
      · cases h; exact tabB_ok x26 x57 (by decide +kernel) "OtherLetters" _ (by decide +kernel)
      · cases h; exact tabB_ok x26 x57 (by decide +kernel) "NoneMarked" _ (by decide +kernel)
      · cases h; exact tabB_ok x26 x57 (by decide +kernel) "NotOne" _ (by decide +kernel)
      · cases h; exact tabB_ok x26 x57 (by decide +kernel) "NoPoint" _ (by decide +kernel)
      · cases h; exact tabB_ok x26 x57 (by decide +kernel) "NoFree" _ (by decide +kernel)
      · cases h
    xo_index := xoB_ok x58
    xo_at := xoB_ok x59
    xo_what := xoB_ok x60
    xo_place := xoB_ok x61
    xo_line := xoB_ok x62
    xo_most := xoB_ok x63
    xo_letter := xoB_ok x64
    xo_mark := xoB_ok x65
    xo_many := xoB_ok x66
    ri1_RootError := (riB_ok x67).1
    ri2_RootError := (riB_ok x67).2.1
    ri3_RootError := (riB_ok x67).2.2.1
    ri4_RootError := (riB_ok x67).2.2.2
    rk_BadText_line_what := kbindsA (ps := ["self", "line", "what"]) Fi_BadText 1 ["line", "what"] (fun us ws => us ++ prm_BadText_line_what ws) (fun h1 h2 => paired_append h1 (prr_BadText_line_what h2)) (fun _ _ _ _ _ _ us ws hl hw => match us, ws, hl, hw with | [_], [_, _], _, _ => rfl)
    rk_BadSystem_place_what := kbindsA (ps := ["self", "what", "place"]) Fi_BadSystem 1 ["place", "what"] (fun us ws => us ++ prm_BadSystem_place_what ws) (fun h1 h2 => paired_append h1 (prr_BadSystem_place_what h2)) (fun _ _ _ _ _ _ us ws hl hw => match us, ws, hl, hw with | [_], [_, _], _, _ => rfl)
    z_ArithmeticError := He.free_ok X G (c.d.fact 168 (f := .free "ArithmeticError") rfl)
    z_LookupError := He.free_ok X G (c.d.fact 169 (f := .free "LookupError") rfl)
    z_ValueError := He.free_ok X G (c.d.fact 170 (f := .free "ValueError") rfl)
    z_abs := He.free_ok X G (c.d.fact 171 (f := .free "abs") rfl)
    z_any := He.free_ok X G (c.d.fact 172 (f := .free "any") rfl)
    z_int := He.free_ok X G (c.d.fact 173 (f := .free "int") rfl)
    z_isinstance := He.free_ok X G (c.d.fact 174 (f := .free "isinstance") rfl)
    z_len := He.free_ok X G (c.d.fact 175 (f := .free "len") rfl)
    z_range := He.free_ok X G (c.d.fact 176 (f := .free "range") rfl) }
end K00
open PySem PySem.W PySem.Calls PyProof.Rows
theorem PySem.Challenge.cw_neverfactored_k00_whole_errors_side_by_s_holds : PySem.Challenge.rw_neverfactored_k00_whole_errors_side_by_s.Holds := by
  w_on; o_law
  refine HandSHeadRun.head_any (r := OpenLaw.row PySem.Challenge.rw_neverfactored_k00_whole_errors_side_by_s) (q := view (OpenLaw.row PySem.Challenge.rw_neverfactored_k00_whole_errors_side_by_s).prog [39]) (H := K00.hk) (ob := K00.ob) (M := 20000) (loose := K00.names) (d := HandSHeadRun.topDef (OpenLaw.row PySem.Challenge.rw_neverfactored_k00_whole_errors_side_by_s).prog 39) (kwd := []) K00.ob_eq
    (by kernel_rfl) (fun s => by kernel_rfl) K00.run (by kernel_rfl) (by kernel_rfl) (by kernel_rfl) (by rfl) (by first | assumption | decide +kernel) (by decide +kernel) ⟨rfl, rfl, rfl, rfl, rfl, by decide +kernel⟩ ?hw ?hc
  case hw => w_witness2
  case hc =>
    refine DL.walkC (l := PySem.Challenge.rw_neverfactored_k00_whole_errors_side_by_s) (n := 63) (k := 4) (x := "_law_script") rfl (by decide) (by kernel_rfl) ⟨rfl, by decide, by decide⟩ ?F
    intro w mg fa h Y G hmg0
    obtain ⟨K, KX, c⟩ := Y
    have hmg : mg ("law" : PySem.Str) = some (.ref fa) := by
      have e : (HandSHeadRun.topDef (OpenLaw.row PySem.Challenge.rw_neverfactored_k00_whole_errors_side_by_s).prog 39).name = ("law" : PySem.Str) := by kernel_rfl
      rw [← e]
      exact hmg0
    obtain ⟨t, T, ea, hb⟩ := K00.tops KX G c
    have e := hmg.symm.trans T.g_law
    cases e
    exact ⟨K, t.fd_law, DL.spLaw K, KX, fun s v => hb s [v] rfl, fun H a ns hl _ hS => ⟨a, ns, rfl, hl, hS, fun _ => rfl⟩, fun base _ _ => DL.law_of (K00.ok_law T) K00.law_eq⟩
