import PyProof.Rows.All
import HandS.ForMost
import HandS.ForExc
import HandS.Wide
import HandS.Walk
import HandS.Flow
import HandS.TupAny
import HandS.TupMul
import HandS.Deep
import HandS.CallSlots
import HandS.TryMany
import HandS.IsInst
import PyProof.ReprRoads
import KE.KExcSuper
import HandS.ExcInit
import HandS.ExcField
import KE.KExcIs
import HandS.Replace
import HandS.Ends
import HandS.ExcIs
import HandS.HotCalls
import PyProof.ReprLen
import PySem.Challenge.RW_leastawry_k00_errors_and_limits
set_option Elab.async false
set_option linter.all false
set_option maxRecDepth 100000
/-! The data layer: a frame's slots hold data trees; meanings are functions of the slots and of one cell. -/
namespace L2
open PySem PySem.Spec PyProof.Rows
theorem PE.imp {X : Cx} {e : Expr} {t t' : TE} (h : PE X e t) (hi : ∀ σ H Q, t' σ H Q → t σ H Q) : PE X e t' := ⟨fun pins s σ H Q I q => h.run pins s σ H Q I (hi σ H Q q)⟩
theorem PT.imp {X : Cx} {e : Expr} {t t' : TT} (h : PT X e t) (hi : ∀ σ H Q, t' σ H Q → t σ H Q) : PT X e t' := ⟨fun pins s σ H Q I q => h.run pins s σ H Q I (hi σ H Q q)⟩
theorem PW.imp {X : Cx} {e : Expr} {t t' : TT} (h : PW X e t) (hi : ∀ σ H Q, t' σ H Q → t σ H Q) : PW X e t' := ⟨fun w pins s σ H Q I q => h.run w pins s σ H Q I (hi σ H Q q)⟩
theorem PA.imp {X : Cx} {es : List Expr} {t t' : TA} (h : PA X es t) (hi : ∀ σ H Q, t' σ H Q → t σ H Q) : PA X es t' := ⟨fun pos pins s σ H Q I q => h.run pos pins s σ H Q I (hi σ H Q q)⟩
theorem PS.imp {X : Cx} {st : Stmt} {t t' : TS} (h : PS X st t) (hi : ∀ D σ H, t' D σ H → t D σ H) : PS X st t' := ⟨fun pins s σ H D I q => h.run pins s σ H D I (hi D σ H q)⟩
theorem PSs.imp {X : Cx} {st : List Stmt} {t t' : TS} (h : PSs X st t) (hi : ∀ D σ H, t' D σ H → t D σ H) : PSs X st t' := ⟨fun pins s σ H D I q => h.run pins s σ H D I (hi D σ H q)⟩
namespace DL

/-! ### results -/
/-- an exception: its class by number, its fields -/
structure Xn where
  n : Nat
  fs : List PyData
inductive R (α : Type) where
  | ok (a : α) (c : Int)
  | ex (x : Xn) (c : Int)
  | no
def R.bind {α β : Type} (r : R α) (k : α → Int → R β) : R β := match r with
  | .ok a c => k a c
  | .ex x c => .ex x c
  | .no => .no
def ofO {α : Type} (o : Option α) (c : Int) : R α := match o with
  | some a => .ok a c
  | none => .no
/-- what a slot holds -/
inductive Sl where
  | un
  | dt (d : PyData)
  | ow (ds : List PyData)
  | ce
  | xn (x : Xn)
  | sc (ns : List Int)
abbrev En := List Sl
abbrev FE := En → Int → R PyData
abbrev FT := En → Int → R Bool
abbrev FA := En → Int → R (List Sl)

/-! ### values and data -/
mutual
inductive Rp (K : PySem.W.Frag) (B : Hp) : V → PyData → Prop
  | non : Rp K B .non .none
  | bl (b : Bool) : Rp K B (.bl b) (.bool b)
  | int (i : Int) : Rp K B (.int i) (.int i)
  | str (x : Str) : Rp K B (.str x) (.str x)
  | lst {a : Addr} {xs : List V} {ds : List PyData} : B a = some (.lst xs) → RpA K B xs ds → Rp K B (.ref a) (.list ds)
  | tup {a : Addr} {xs : List V} {ds : List PyData} : SqT K B a xs → RpA K B xs ds → Rp K B (.ref a) (.tuple ds)
inductive RpA (K : PySem.W.Frag) (B : Hp) : List V → List PyData → Prop
  | nil : RpA K B [] []
  | cons {v : V} {vs : List V} {d : PyData} {ds : List PyData} : Rp K B v d → RpA K B vs ds → RpA K B (v :: vs) (d :: ds)
end
theorem Same.seqT {K : PySem.W.Frag} {H H' : Hp} {a : Addr} {xs : List V} (e : Same H H') (h : SqT K H a xs) : SqT K H' a xs := by
  rcases h with (h | ⟨o, h⟩) | h
  · exact Or.inl (Or.inl (e a _ h))
  · exact Or.inl (Or.inr ⟨o, e a _ h⟩)
  · exact Or.inr h
section
variable {K : PySem.W.Frag} {B B' : Hp}
mutual
theorem Rp.mono (e : Same B B') : ∀ {v : V} {d : PyData}, Rp K B v d → Rp K B' v d
  | _, _, .non => .non
  | _, _, .bl b => .bl b
  | _, _, .int i => .int i
  | _, _, .str x => .str x
  | _, _, .lst h r => .lst (e _ _ h) (RpA.mono e r)
  | _, _, .tup h r => .tup (Same.seqT e h) (RpA.mono e r)
theorem RpA.mono (e : Same B B') : ∀ {vs : List V} {ds : List PyData}, RpA K B vs ds → RpA K B' vs ds
  | _, _, .nil => .nil
  | _, _, .cons h r => .cons (Rp.mono e h) (RpA.mono e r)
end
mutual
theorem Rp.dp : ∀ {v : V} {d : PyData}, Rp K B v d → Dp K B v d
  | _, _, .non => .non
  | _, _, .bl b => .bl b
  | _, _, .int i => .int i
  | _, _, .str x => .str x
  | _, _, .lst h r => .lst (SqL.of h) (RpA.dp r)
  | _, _, .tup h r => .tup h (RpA.dp r)
theorem RpA.dp : ∀ {vs : List V} {ds : List PyData}, RpA K B vs ds → DpAll K B vs ds
  | _, _, .nil => .nil
  | _, _, .cons h r => .cons (Rp.dp h) (RpA.dp r)
end
theorem RpA.len {vs : List V} {ds : List PyData} (h : RpA K B vs ds) : vs.length = ds.length := by
  induction ds generalizing vs with
  | nil => cases h; rfl
  | cons d ds ih => cases h with | cons h r => simp [ih r]
theorem RpA.get {vs : List V} {ds : List PyData} (h : RpA K B vs ds) : ∀ {i : Nat} {d : PyData}, ds[i]? = some d → ∃ v, vs[i]? = some v ∧ Rp K B v d := by
  induction ds generalizing vs with
  | nil => intro i d e; simp at e
  | cons d0 ds ih =>
    cases h with
    | cons h r =>
      intro i d e
      cases i with
      | zero => simp at e; subst e; exact ⟨_, rfl, h⟩
      | succ i => simpa using ih r (by simpa using e)
theorem RpA.get' {vs : List V} {ds : List PyData} (h : RpA K B vs ds) {i : Nat} {v : V} (e : vs[i]? = some v) : ∃ d, ds[i]? = some d ∧ Rp K B v d := by
  have hl := h.len
  have hi : i < ds.length := by rw [← hl]; exact (List.getElem?_eq_some_iff.mp e).1
  obtain ⟨v', e', r⟩ := h.get (List.getElem?_eq_getElem hi)
  rw [e] at e'
  cases e'
  exact ⟨_, List.getElem?_eq_getElem hi, r⟩
theorem RpA.app {vs ws : List V} {ds es : List PyData} (h : RpA K B vs ds) (g : RpA K B ws es) : RpA K B (vs ++ ws) (ds ++ es) := by
  induction ds generalizing vs with
  | nil => cases h; exact g
  | cons d ds ih => cases h with | cons h r => exact .cons h (ih r)
theorem RpA.set {vs : List V} {ds : List PyData} (h : RpA K B vs ds) {v : V} {d : PyData} (r : Rp K B v d) : ∀ i : Nat, RpA K B (vs.set i v) (ds.set i d) := by
  induction ds generalizing vs with
  | nil => cases h; intro i; exact .nil
  | cons d0 ds ih =>
    cases h with
    | cons h0 r0 =>
      intro i
      cases i with
      | zero => exact .cons r r0
      | succ i => exact .cons h0 (ih r0 i)
theorem RpA.take {vs : List V} {ds : List PyData} (h : RpA K B vs ds) : ∀ i : Nat, RpA K B (vs.take i) (ds.take i) := by
  induction ds generalizing vs with
  | nil => cases h; intro i; cases i <;> exact .nil
  | cons d0 ds ih =>
    cases h with
    | cons h0 r0 =>
      intro i
      cases i with
      | zero => exact .nil
      | succ i => exact .cons h0 (ih r0 i)
theorem RpA.drop {vs : List V} {ds : List PyData} (h : RpA K B vs ds) : ∀ i : Nat, RpA K B (vs.drop i) (ds.drop i) := by
  induction ds generalizing vs with
  | nil => cases h; intro i; cases i <;> exact .nil
  | cons d0 ds ih =>
    cases h with
    | cons h0 r0 =>
      intro i
      cases i with
      | zero => exact .cons h0 r0
      | succ i => exact ih r0 i
theorem RpA.dropLast {vs : List V} {ds : List PyData} (h : RpA K B vs ds) : RpA K B vs.dropLast ds.dropLast := by
  rw [List.dropLast_eq_take, List.dropLast_eq_take, h.len]
  exact h.take _
theorem RpA.erase {vs : List V} {ds : List PyData} (h : RpA K B vs ds) : ∀ i : Nat, RpA K B (vs.eraseIdx i) (ds.eraseIdx i) := by
  induction ds generalizing vs with
  | nil => cases h; intro i; exact .nil
  | cons d0 ds ih =>
    cases h with
    | cons h0 r0 =>
      intro i
      cases i with
      | zero => exact r0
      | succ i => exact .cons h0 (ih r0 i)
end

/-! ### the state -/
structure XC where
  C : Addr
  ns : List Str
structure Par where
  K : PySem.W.Frag
  C : Option Addr
  B0 : Hp
  H0 : Hp
  xt : List XC
  W : WX
  xa : Option (Addr × Addr × Addr)
  n : Nat
def SlOk (p : Par) (B H : Hp) (o : Option V) : Sl → Prop
  | .un => True
  | .dt d => ∃ v, o = some v ∧ Rp p.K B v d
  | .ow ds => ∃ a xs, o = some (.ref a) ∧ H a = some (.lst xs) ∧ B a = none ∧ p.H0 a = none ∧ RpA p.K B xs ds
  | .ce => ∃ a, p.C = some a ∧ o = some (.ref a)
  | .sc ns => ∃ a, o = some (.ref a) ∧ SqL p.K B a (ns.map V.int)
  | .xn x => ∃ a dd C ns vs, p.xa = some (a, dd, C) ∧ o = some (.ref a) ∧ p.xt[x.n]? = some ⟨C, ns⟩ ∧ H dd = some (.xd (ns.zip vs)) ∧ p.H0 dd ≠ none ∧ RpA p.K B vs x.fs ∧ ns.length = vs.length
structure Sta (p : Par) (B H : Hp) (σ : St) (ρ : En) (c : Int) : Prop where
  sub : Same B H
  ext : Same p.B0 B
  new : ∀ a, B a ≠ none → p.B0 a ≠ none ∨ p.H0 a = none
  keep : ∀ a o, p.H0 a = some o → p.C ≠ some a → H a = some o
  cel : ∀ a, p.C = some a → H a = some (.lst [.int c]) ∧ B a = none ∧ p.H0 a ≠ none
  len : σ.length = ρ.length
  ln : σ.length = p.n
  slot : ∀ (i : Nat) (s : Sl), ρ[i]? = some s → ∃ o, σ[i]? = some o ∧ SlOk p B H o s
  apart : ∀ (i j : Nat) (a : Addr) (ds es : List PyData), ρ[i]? = some (.ow ds) → ρ[j]? = some (.ow es) → σ[i]? = some (some (.ref a)) → σ[j]? = some (some (.ref a)) → i = j
/-- new objects only, but for the cell -/
structure Gr (C : Option Addr) (B H B' H' : Hp) : Prop where
  b : Same B B'
  s : Same B' H'
  n : ∀ a, B' a ≠ none → B a ≠ none ∨ H a = none
  k : ∀ a o, H a = some o → C ≠ some a → H' a = some o
/-- .. and the cell stands -/
structure Gw (B H B' H' : Hp) : Prop where
  b : Same B B'
  s : Same B' H'
  n : ∀ a, B' a ≠ none → B a ≠ none ∨ H a = none
  k : Same H H'
theorem Gw.gr {B H B' H' : Hp} (g : Gw B H B' H') (C : Option Addr) : Gr C B H B' H' := ⟨g.b, g.s, g.n, fun a o e _ => g.k a o e⟩
theorem Gw.refl {B H : Hp} (s : Same B H) : Gw B H B H := ⟨Same.refl _, s, fun _ h => .inl h, Same.refl _⟩
theorem Gw.trans {B H B1 H1 B2 H2 : Hp} (g : Gw B H B1 H1) (h : Gw B1 H1 B2 H2) : Gw B H B2 H2 :=
  ⟨g.b.trans h.b, h.s, fun a q => by
    rcases h.n a q with z | z
    · exact g.n a z
    · exact .inr (g.k.free z), g.k.trans h.k⟩
/-- a new object, frozen at once -/
theorem Gw.new {B H : Hp} (s : Same B H) {a : Addr} (o : HO) (n : H a = none) : Gw B H (upd B a o) (upd H a o) := by
  have nb : B a = none := s.free n
  refine ⟨fun b x e => ?_, fun b x e => ?_, fun b q => ?_, fun b x e => ?_⟩
  · rw [upd_ne (ne_of_none e nb)]; exact e
  · by_cases h : b = a
    · subst h; rw [upd_same] at e ⊢; exact e
    · rw [upd_ne h] at e ⊢; exact s b x e
  · by_cases h : b = a
    · subst h; exact .inr n
    · rw [upd_ne h] at q; exact .inl q
  · rw [upd_ne (ne_of_none e n)]; exact e
/-- a new object, not frozen -/
theorem Gw.held {B H : Hp} (s : Same B H) {a : Addr} (o : HO) (n : H a = none) : Gw B H B (upd H a o) := by
  refine ⟨Same.refl _, fun b x e => ?_, fun _ h => .inl h, fun b x e => ?_⟩
  · rw [upd_ne (ne_of_none (s b x e) n)]; exact s b x e
  · rw [upd_ne (ne_of_none e n)]; exact e
section
variable {p : Par} {B H B' H' : Hp} {σ : St} {ρ : En} {c c' : Int}
theorem Sta.none0 (S : Sta p B H σ ρ c) {a : Addr} (h : H a = none) : p.H0 a = none := by
  cases q : p.H0 a with
  | none => rfl
  | some o =>
    by_cases hc : p.C = some a
    · rw [(S.cel a hc).1] at h; cases h
    · rw [S.keep a o q hc] at h; cases h
theorem Sta.call (S : Sta p B H σ ρ c) (g : Gr p.C B H B' H') (hc : ∀ a, p.C = some a → H' a = some (.lst [.int c'])) : Sta p B' H' σ ρ c' where
  sub := g.s
  ext := S.ext.trans g.b
  new := fun a q => by
    rcases g.n a q with z | z
    · exact S.new a z
    · exact .inr (S.none0 z)
  keep := fun a o e q => g.k a o (S.keep a o e q) q
  cel := fun a e => by
    obtain ⟨h1, h2, h3⟩ := S.cel a e
    refine ⟨hc a e, ?_, h3⟩
    cases q : B' a with
    | none => rfl
    | some o =>
      rcases g.n a (by rw [q]; exact fun z => nomatch z) with z | z
      · exact absurd h2 z
      · rw [h1] at z; cases z
  len := S.len
  ln := S.ln
  slot := fun i s e => by
    obtain ⟨o, h1, h2⟩ := S.slot i s e
    refine ⟨o, h1, ?_⟩
    cases s with
    | un => trivial
    | dt d => obtain ⟨v, e1, r⟩ := h2; exact ⟨v, e1, r.mono g.b⟩
    | ow ds =>
      obtain ⟨a, xs, e1, e2, e3, e4, r⟩ := h2
      refine ⟨a, xs, e1, g.k a _ e2 fun z => ?_, ?_, e4, r.mono g.b⟩
      · exact (S.cel a z).2.2 e4
      · cases q : B' a with
        | none => rfl
        | some o =>
          rcases g.n a (by rw [q]; exact fun z => nomatch z) with z | z
          · exact absurd e3 z
          · rw [e2] at z; cases z
    | ce => exact h2
    | sc ns => obtain ⟨a, k1, k2⟩ := h2; exact ⟨a, k1, g.b.seq k2⟩
    | xn x =>
      obtain ⟨a, dd, D, ns, vs, k1, k2, k3, k4, k5, k6, k7⟩ := h2
      refine ⟨a, dd, D, ns, vs, k1, k2, k3, g.k dd _ k4 fun z => ?_, k5, k6.mono g.b, k7⟩
      rw [(S.cel dd z).1] at k4
      cases k4
  apart := S.apart
theorem Sta.grow (S : Sta p B H σ ρ c) (g : Gw B H B' H') : Sta p B' H' σ ρ c := S.call (g.gr p.C) fun a e => g.k a _ (S.cel a e).1
/-- another wish -/
theorem Sta.wish (S : Sta p B H σ ρ c) (W : WX) : Sta { p with W := W } B H σ ρ c := ⟨S.sub, S.ext, S.new, S.keep, S.cel, S.len, S.ln, S.slot, S.apart⟩
theorem Sta.unwish {W : WX} (S : Sta { p with W := W } B H σ ρ c) : Sta p B H σ ρ c := ⟨S.sub, S.ext, S.new, S.keep, S.cel, S.len, S.ln, S.slot, S.apart⟩
end
def ExOk (K : PySem.W.Frag) (xt : List XC) (B H : Hp) (cls : Value) (d : Option Addr) (x : Xn) : Prop :=
  ∃ C ns dd vs, xt[x.n]? = some ⟨C, ns⟩ ∧ cls = .ref C ∧ d = some dd ∧ H dd = some (.xd (ns.zip vs)) ∧ RpA K B vs x.fs ∧ ns.length = vs.length

/-! ### readings -/
def PostE (p : Par) (σ : St) (ρ : En) (B : Hp) (Q : VK) : R PyData → Prop
  | .ok d c' => ∀ v B' H', Sta p B' H' σ ρ c' → Same B B' → Rp p.K B' v d → Q v H'
  | .ex x c' => ∀ B' H' cls d, Sta p B' H' σ ρ c' → Same B B' → ExOk p.K p.xt B' H' cls d x → p.W cls d σ H'
  | .no => False
def PostT (p : Par) (σ : St) (ρ : En) (B : Hp) (Q : Bool → Hp → Prop) : R Bool → Prop
  | .ok b c' => ∀ B' H', Sta p B' H' σ ρ c' → Same B B' → Q b H'
  | .ex x c' => ∀ B' H' cls d, Sta p B' H' σ ρ c' → Same B B' → ExOk p.K p.xt B' H' cls d x → p.W cls d σ H'
  | .no => False
def ArOk (K : PySem.W.Frag) (C : Option Addr) (B : Hp) (v : V) : Sl → Prop
  | .dt d => Rp K B v d
  | .ce => ∃ a, C = some a ∧ v = .ref a
  | .sc ns => ∃ a, v = .ref a ∧ SqL K B a (ns.map V.int)
  | _ => False
inductive ArA (K : PySem.W.Frag) (C : Option Addr) (B : Hp) : List V → List Sl → Prop
  | nil : ArA K C B [] []
  | cons {v : V} {vs : List V} {s : Sl} {ss : List Sl} : ArOk K C B v s → ArA K C B vs ss → ArA K C B (v :: vs) (s :: ss)
theorem ArOk.mono {K : PySem.W.Frag} {C : Option Addr} {B B' : Hp} (e : Same B B') {v : V} {s : Sl} (h : ArOk K C B v s) : ArOk K C B' v s := by
  cases s with
  | un => exact h
  | dt d => exact Rp.mono e h
  | ow ds => exact h
  | ce => exact h
  | xn x => exact h
  | sc ns => obtain ⟨a, k1, k2⟩ := h; exact ⟨a, k1, e.seq k2⟩
theorem ArA.mono {K : PySem.W.Frag} {C : Option Addr} {B B' : Hp} (e : Same B B') {vs : List V} {ss : List Sl} (h : ArA K C B vs ss) : ArA K C B' vs ss := by
  induction h with
  | nil => exact .nil
  | cons h _ ih => exact .cons (h.mono e) ih
theorem ArA.len {K : PySem.W.Frag} {C : Option Addr} {B : Hp} {vs : List V} {ss : List Sl} (h : ArA K C B vs ss) : vs.length = ss.length := by
  induction h with
  | nil => rfl
  | cons _ _ ih => simp [ih]
def PostA (p : Par) (σ : St) (ρ : En) (B : Hp) (Q : List V → Hp → Prop) : R (List Sl) → Prop
  | .ok ss c' => ∀ vs B' H', Sta p B' H' σ ρ c' → Same B B' → ArA p.K p.C B' vs ss → Q vs H'
  | .ex x c' => ∀ B' H' cls d, Sta p B' H' σ ρ c' → Same B B' → ExOk p.K p.xt B' H' cls d x → p.W cls d σ H'
  | .no => False
def dE (p : Par) (f : FE) : TE := fun σ H Q => ∃ B ρ c, Sta p B H σ ρ c ∧ PostE p σ ρ B Q (f ρ c)
def dT (p : Par) (f : FT) : TT := fun σ H Q => ∃ B ρ c, Sta p B H σ ρ c ∧ PostT p σ ρ B Q (f ρ c)
def dA (p : Par) (f : FA) : TA := fun σ H Q => ∃ B ρ c, Sta p B H σ ρ c ∧ PostA p σ ρ B Q (f ρ c)

section
variable {p : Par} {σ : St} {ρ : En} {B B' : Hp}
theorem PostE.from {Q : VK} {r : R PyData} (h : PostE p σ ρ B Q r) (s : Same B B') : PostE p σ ρ B' Q r := by
  cases r with
  | ok d c => exact fun v B2 H2 S z r => h v B2 H2 S (s.trans z) r
  | ex x c => exact fun B2 H2 cls d S z e => h B2 H2 cls d S (s.trans z) e
  | no => exact h
theorem PostT.from {Q : Bool → Hp → Prop} {r : R Bool} (h : PostT p σ ρ B Q r) (s : Same B B') : PostT p σ ρ B' Q r := by
  cases r with
  | ok d c => exact fun B2 H2 S z => h B2 H2 S (s.trans z)
  | ex x c => exact fun B2 H2 cls d S z e => h B2 H2 cls d S (s.trans z) e
  | no => exact h
theorem PostA.from {Q : List V → Hp → Prop} {r : R (List Sl)} (h : PostA p σ ρ B Q r) (s : Same B B') : PostA p σ ρ B' Q r := by
  cases r with
  | ok d c => exact fun v B2 H2 S z r => h v B2 H2 S (s.trans z) r
  | ex x c => exact fun B2 H2 cls d S z e => h B2 H2 cls d S (s.trans z) e
  | no => exact h
/-- an expression ahead of an expression -/
theorem PostE.bE {Q Q' : VK} {r : R PyData} {k : PyData → Int → R PyData} (h : PostE p σ ρ B Q (r.bind k))
    (hq : ∀ d c' v B' H', Sta p B' H' σ ρ c' → Rp p.K B' v d → Same B B' → PostE p σ ρ B' Q (k d c') → Q' v H') : PostE p σ ρ B Q' r := by
  cases r with
  | ok d c => exact fun v B2 H2 S z r => hq d c v B2 H2 S r z (PostE.from h z)
  | ex x c => exact h
  | no => exact h
theorem PostE.bT {Q : VK} {Q' : Bool → Hp → Prop} {r : R Bool} {k : Bool → Int → R PyData} (h : PostE p σ ρ B Q (r.bind k))
    (hq : ∀ b c' B' H', Sta p B' H' σ ρ c' → Same B B' → PostE p σ ρ B' Q (k b c') → Q' b H') : PostT p σ ρ B Q' r := by
  cases r with
  | ok d c => exact fun B2 H2 S z => hq d c B2 H2 S z (PostE.from h z)
  | ex x c => exact h
  | no => exact h
theorem PostE.bA {Q : VK} {Q' : List V → Hp → Prop} {r : R (List Sl)} {k : List Sl → Int → R PyData} (h : PostE p σ ρ B Q (r.bind k))
    (hq : ∀ ss c' vs B' H', Sta p B' H' σ ρ c' → ArA p.K p.C B' vs ss → Same B B' → PostE p σ ρ B' Q (k ss c') → Q' vs H') : PostA p σ ρ B Q' r := by
  cases r with
  | ok d c => exact fun v B2 H2 S z r => hq d c v B2 H2 S r z (PostE.from h z)
  | ex x c => exact h
  | no => exact h
theorem PostT.bE {Q : Bool → Hp → Prop} {Q' : VK} {r : R PyData} {k : PyData → Int → R Bool} (h : PostT p σ ρ B Q (r.bind k))
    (hq : ∀ d c' v B' H', Sta p B' H' σ ρ c' → Rp p.K B' v d → Same B B' → PostT p σ ρ B' Q (k d c') → Q' v H') : PostE p σ ρ B Q' r := by
  cases r with
  | ok d c => exact fun v B2 H2 S z r => hq d c v B2 H2 S r z (PostT.from h z)
  | ex x c => exact h
  | no => exact h
theorem PostT.bT {Q Q' : Bool → Hp → Prop} {r : R Bool} {k : Bool → Int → R Bool} (h : PostT p σ ρ B Q (r.bind k))
    (hq : ∀ b c' B' H', Sta p B' H' σ ρ c' → Same B B' → PostT p σ ρ B' Q (k b c') → Q' b H') : PostT p σ ρ B Q' r := by
  cases r with
  | ok d c => exact fun B2 H2 S z => hq d c B2 H2 S z (PostT.from h z)
  | ex x c => exact h
  | no => exact h
theorem PostA.bE {Q : List V → Hp → Prop} {Q' : VK} {r : R PyData} {k : PyData → Int → R (List Sl)} (h : PostA p σ ρ B Q (r.bind k))
    (hq : ∀ d c' v B' H', Sta p B' H' σ ρ c' → Rp p.K B' v d → Same B B' → PostA p σ ρ B' Q (k d c') → Q' v H') : PostE p σ ρ B Q' r := by
  cases r with
  | ok d c => exact fun v B2 H2 S z r => hq d c v B2 H2 S r z (PostA.from h z)
  | ex x c => exact h
  | no => exact h
theorem PostA.bA {Q Q' : List V → Hp → Prop} {r : R (List Sl)} {k : List Sl → Int → R (List Sl)} (h : PostA p σ ρ B Q (r.bind k))
    (hq : ∀ ss c' vs B' H', Sta p B' H' σ ρ c' → ArA p.K p.C B' vs ss → Same B B' → PostA p σ ρ B' Q (k ss c') → Q' vs H') : PostA p σ ρ B Q' r := by
  cases r with
  | ok d c => exact fun v B2 H2 S z r => hq d c v B2 H2 S r z (PostA.from h z)
  | ex x c => exact h
  | no => exact h
end

/-! ### names, constants -/
section
variable {X : Cx} {p : Par} {pos : Pos}
def fNm (i : Nat) : FE := fun ρ c => match ρ[i]? with
  | some (.dt d) => .ok d c
  | _ => .no
def fC (d : PyData) : FE := fun _ c => .ok d c
theorem de_nm {e : Expr} (i : Nat) (h : PE X e (tVar i)) : PE X e (dE p (fNm i)) := h.imp fun σ H Q ⟨B, ρ, c, S, m⟩ => by
  unfold fNm at m
  split at m
  · rename_i d e
    obtain ⟨o, e1, v, e2, r⟩ := S.slot i _ e
    subst e2
    exact ⟨v, e1, m v B H S (Same.refl _) r⟩
  · exact m.elim
theorem de_tC {e : Expr} {v : V} {d : PyData} (h : PE X e (tC v)) (r : ∀ B, Same p.B0 B → Rp p.K B v d) : PE X e (dE p (fC d)) := h.imp fun σ H Q ⟨B, ρ, c, S, m⟩ => m v B H S (Same.refl _) (r B S.ext)
theorem de_int {i : Int} {j : Nat} : PE X (.Constant (.int i) j pos) (dE p (fC (.int i))) := de_tC pe_int fun _ _ => .int i
theorem de_str {x : Str} {j : Nat} : PE X (.Constant (.str x) j pos) (dE p (fC (.str x))) := de_tC pe_str fun _ _ => .str x
theorem de_bl {b : Bool} {j : Nat} : PE X (.Constant (.bool b) j pos) (dE p (fC (.bool b))) := de_tC pe_bl fun _ _ => .bl b
theorem de_non {j : Nat} : PE X (.Constant .none j pos) (dE p (fC .none)) := de_tC pe_non fun _ _ => .non

/-! ### operators by values -/
def vOp (K : PySem.W.Frag) (bf : PyData → PyData → Option PyData) : R2 := fun x y H Q => ∃ B d1 d2 d, Same B H ∧ Rp K B x d1 ∧ Rp K B y d2 ∧ bf d1 d2 = some d ∧
  ∀ v B' H', Gw B H B' H' → Rp K B' v d → Q v H'
def vUn (K : PySem.W.Frag) (uf : PyData → Option PyData) : V → Hp → VK → Prop := fun x H Q => ∃ B d1 d, Same B H ∧ Rp K B x d1 ∧ uf d1 = some d ∧
  ∀ v B' H', Gw B H B' H' → Rp K B' v d → Q v H'
def vCl (K : PySem.W.Frag) (cf : List PyData → Option PyData) : List V → Hp → VK → Prop := fun xs H Q => ∃ B ds d, Same B H ∧ RpA K B xs ds ∧ cf ds = some d ∧
  ∀ v B' H', Gw B H B' H' → Rp K B' v d → Q v H'
def vMt (K : PySem.W.Frag) (cf : PyData → List PyData → Option PyData) : V → List V → Hp → VK → Prop := fun x xs H Q => ∃ B e ds d, Same B H ∧ Rp K B x e ∧ RpA K B xs ds ∧ cf e ds = some d ∧
  ∀ v B' H', Gw B H B' H' → Rp K B' v d → Q v H'
def f1 (uf : PyData → Option PyData) (f : FE) : FE := fun ρ c => (f ρ c).bind fun x c1 => ofO (uf x) c1
def f2 (bf : PyData → PyData → Option PyData) (f g : FE) : FE := fun ρ c => (f ρ c).bind fun x c1 => (g ρ c1).bind fun y c2 => ofO (bf x y) c2
variable {a b : Expr} {f g h : FE} {op : Operator}
theorem ofO_ok {σ : St} {ρ : En} {B : Hp} {Q : VK} {o : Option PyData} {c : Int} (m : PostE p σ ρ B Q (ofO o c)) : ∃ d, o = some d ∧ ∀ v B' H', Sta p B' H' σ ρ c → Same B B' → Rp p.K B' v d → Q v H' := by
  cases o with
  | none => exact m.elim
  | some d => exact ⟨d, rfl, m⟩
theorem two {bf : PyData → PyData → Option PyData} {σ : St} {H : Hp} {Q : VK} (h : dE p (f2 bf f g) σ H Q) : tOp (vOp p.K bf) (dE p f) (dE p g) σ H Q := by
  obtain ⟨B, ρ, c, S, m⟩ := h
  refine ⟨B, ρ, c, S, m.bE fun x c1 v B1 H1 S1 r1 s1 m1 => ⟨B1, ρ, c1, S1, m1.bE fun y c2 u B2 H2 S2 r2 s2 m2 => ?_⟩⟩
  obtain ⟨d, e, q⟩ := ofO_ok m2
  exact ⟨B2, x, y, d, S2.sub, r1.mono s2, r2, e, fun v B' H' G r => q v B' H' (S2.grow G) G.b r⟩
theorem one {uf : PyData → Option PyData} {σ : St} {H : Hp} {Q : VK} (h : dE p (f1 uf f) σ H Q) : tUn (vUn p.K uf) (dE p f) σ H Q := by
  obtain ⟨B, ρ, c, S, m⟩ := h
  refine ⟨B, ρ, c, S, m.bE fun x c1 v B1 H1 S1 r1 s1 m1 => ?_⟩
  obtain ⟨d, e, q⟩ := ofO_ok m1
  exact ⟨B1, x, d, S1.sub, r1, e, fun v B' H' G r => q v B' H' (S1.grow G) G.b r⟩
theorem de_op {bf : PyData → PyData → Option PyData} (ho : OpR X (binaryOp op) (vOp p.K bf)) (ha : PE X a (dE p f)) (hb : PE X b (dE p g)) : PE X (.BinOp a op b pos) (dE p (f2 bf f g)) :=
  (pe_op ho ha hb).imp fun _ _ _ h => two h
theorem de_un {op : UnaryOp} {uf : PyData → Option PyData} (ho : UnR X (unaryOp op) (vUn p.K uf)) (ha : PE X a (dE p f)) : PE X (.UnaryOp op a pos) (dE p (f1 uf f)) :=
  (pe_un ho ha).imp fun _ _ _ h => one h
theorem de_cmp {op : CmpOp} {bf : PyData → PyData → Option PyData} (ho : OpR X (compareOp op) (vOp p.K bf)) (hm : behindInMarks op b = false) (ha : PE X a (dE p f)) (hb : PE X b (dE p g)) : PE X (.Compare a [op] [b] pos) (dE p (f2 bf f g)) :=
  (pe_cmpR ho ha hb hm).imp fun _ _ _ h => two h
theorem de_ix {bf : PyData → PyData → Option PyData} (hr : IxR X (vOp p.K bf)) (hs : PlainIx b) (ha : PE X a (dE p f)) (hb : PE X b (dE p g)) : PE X (.Subscript a b pos) (dE p (f2 bf f g)) :=
  (pe_ix hr ha hb hs).imp fun _ _ _ h => two h

/-! ### tests -/
/-- the truth of a bool -/
def asB : PyData → Option Bool
  | .bool b => some b
  | _ => none
def tB1 (f : FE) : FT := fun ρ c => (f ρ c).bind fun d c1 => ofO (asB d) c1
theorem asB_some {d : PyData} {k : Bool} (h : asB d = some k) : d = .bool k := by
  cases d <;> first | (simp [asB] at h; done) | (simp [asB] at h; rw [h])
theorem Rp.of_bl {K : PySem.W.Frag} {B : Hp} {v : V} {k : Bool} (r : Rp K B v (.bool k)) : v = .bl k := by cases r; rfl
theorem Rp.of_int {K : PySem.W.Frag} {B : Hp} {v : V} {k : Int} (r : Rp K B v (.int k)) : v = .int k := by cases r; rfl
theorem Rp.of_str {K : PySem.W.Frag} {B : Hp} {v : V} {k : Str} (r : Rp K B v (.str k)) : v = .str k := by cases r; rfl
theorem Rp.of_non {K : PySem.W.Frag} {B : Hp} {v : V} (r : Rp K B v .none) : v = .non := by cases r; rfl
theorem tB_ok {σ : St} {H : Hp} {Q : Bool → Hp → Prop} (h : dT p (tB1 f) σ H Q) : dE p f σ H fun x H' => ∃ k, x = .bl k ∧ Q k H' := by
  obtain ⟨B, ρ, c, S, m⟩ := h
  refine ⟨B, ρ, c, S, m.bE fun x c1 v B1 H1 S1 r1 s1 m1 => ?_⟩
  cases e : asB x with
  | none => rw [e] at m1; exact m1.elim
  | some k =>
    rw [e] at m1
    have ex := asB_some e
    subst ex
    exact ⟨k, r1.of_bl, m1 B1 H1 S1 (Same.refl _)⟩
theorem dt_cmp {op : CmpOp} {bf : PyData → PyData → Option PyData} (ho : OpR X (compareOp op) (vOp p.K bf)) (hm : behindInMarks op b = false) (ha : PE X a (dE p f)) (hb : PE X b (dE p g)) : PT X (.Compare a [op] [b] pos) (dT p (tB1 (f2 bf f g))) :=
  (pt_cmpR ho ha hb hm).imp fun σ H Q h => by
    obtain ⟨B, ρ, c, S, m⟩ := tB_ok h
    exact two ⟨B, ρ, c, S, m⟩
/-- an expression that gives a bool -/
theorem dt_val (ha : PE X a (dE p f)) (he : ∀ whole, isTrue a X.env whole = (do let v ← whole; standAt a.pos; holding [v] (truthy v)) := by intro _; rfl) : PT X a (dT p (tB1 f)) :=
  (pt_val ha he).imp fun σ H Q h => by
    obtain ⟨B, ρ, c, S, m⟩ := tB_ok h
    exact ⟨B, ρ, c, S, m⟩
/-- the truth of any value -/
def truth : PyData → Option Bool
  | .none => some false
  | .bool b => some b
  | .int i => some (i != 0)
  | .str x => if x.length ≤ sizeLine then some (x.length != 0) else none
  | .list xs => some (!xs.isEmpty)
  | .tuple xs => some (!xs.isEmpty)
  | .dict _ => none
def tTr (f : FE) : FT := fun ρ c => (f ρ c).bind fun d c1 => ofO (truth d) c1
end
end DL
end L2

set_option Elab.async false
set_option linter.all false
set_option maxRecDepth 100000
namespace L2
open PySem PySem.Spec PyProof.Rows
namespace DL

/-! ### arithmetic on data -/
def dAdd : PyData → PyData → Option PyData
  | .int a, .int b => some (.int (a + b))
  | .str a, .str b => if a.length + b.length ≤ sizeLine then some (.str (a ++ b)) else none
  | .tuple a, .tuple b => if a.length + b.length ≤ sizeLine then some (.tuple (a ++ b)) else none
  | .list a, .list b => if a.length + b.length ≤ sizeLine then some (.list (a ++ b)) else none
  | _, _ => none
def dSub : PyData → PyData → Option PyData
  | .int a, .int b => some (.int (a - b))
  | _, _ => none
def mulFits (a b : Int) : Bool := decide (a.natAbs.log2 + b.natAbs.log2 < 1000000)
def dMul : PyData → PyData → Option PyData
  | .int a, .int b => if mulFits a b then some (.int (a * b)) else none
  | .list a, .int k => if 0 ≤ k ∧ k ≤ 1000 ∧ a.length ≤ 1000 then some (.list (List.replicate k.toNat a).flatten) else none
  | .tuple a, .int k => if a ≠ [] ∧ 2 ≤ k ∧ k ≤ 1000 ∧ a.length ≤ 1000 then some (.tuple (List.replicate k.toNat a).flatten) else none
  | _, _ => none
def divFits (b : Int) : Bool := decide (b ≠ 0) && decide (b.natAbs.log2 < 9000)
def dDiv : PyData → PyData → Option PyData
  | .int a, .int b => if divFits b then some (.int (a.fdiv b)) else none
  | _, _ => none
def dMod : PyData → PyData → Option PyData
  | .int a, .int b => if b ≠ 0 then some (.int (a.fmod b)) else none
  | _, _ => none
def dPow : PyData → PyData → Option PyData
  | .int a, .int b => if 0 ≤ b ∧ b ≤ 1000000 ∧ a.natAbs < 2 ^ 64 then some (.int (a ^ b.toNat)) else none
  | _, _ => none
def dNeg : PyData → Option PyData
  | .int a => some (.int (-a))
  | _ => none
section
variable {X : Cx}
theorem RpA.rep {K : PySem.W.Frag} {B : Hp} {xs : List V} {ds : List PyData} (h : RpA K B xs ds) : ∀ n : Nat, RpA K B (List.replicate n xs).flatten (List.replicate n ds).flatten
  | 0 => .nil
  | n + 1 => by
    rw [List.replicate_succ, List.flatten_cons, List.replicate_succ, List.flatten_cons]
    exact h.app (RpA.rep h n)
theorem vop_add : OpR X (binaryOp .Add) (vOp X.K dAdd) := by
  intro pins s σ H x y v u Q I rx ry ⟨B, d1, d2, d, sb, r1, r2, e, q⟩
  unfold dAdd at e
  split at e
  · rename_i a b
    cases e
    obtain rfl := r1.of_int
    obtain rfl := r2.of_int
    exact op_add pins s σ H _ _ v u Q I rx ry ⟨a, b, rfl, rfl, q _ B H (Gw.refl sb) (.int _)⟩
  · rename_i a b
    split at e
    · rename_i hz
      cases e
      obtain rfl := r1.of_str
      obtain rfl := r2.of_str
      exact op_add_str pins s σ H _ _ v u Q I rx ry ⟨a, b, rfl, rfl, hz, q _ B H (Gw.refl sb) (.str _)⟩
    · cases e
  · rename_i a b
    split at e
    · rename_i hz
      cases e
      cases r1 with
      | tup h1 a1 =>
        rename_i p xs
        cases r2 with
        | tup h2 a2 =>
          rename_i p2 xs2
          have l1 := a1.len
          have l2 := a2.len
          refine op_catA pins s σ H _ _ v u Q I rx ry ⟨p, p2, xs, xs2, rfl, rfl, Same.seqT sb h1, Same.seqT sb h2, by omega, fun z => ?_, fun z z2 => ?_, fun z z2 g ng => ?_⟩
          · subst z
            cases a1
            exact q _ B H (Gw.refl sb) (.tup h2 a2)
          · subst z2
            cases a2
            rw [List.append_nil] at q
            exact q _ B H (Gw.refl sb) (.tup h1 a1)
          · refine q _ _ _ (Gw.new sb (.tup (xs ++ xs2)) ng) (.tup (SqT.of upd_same) ?_)
            exact (a1.app a2).mono (Gw.new sb (.tup (xs ++ xs2)) ng).b
    · cases e
  · rename_i a b
    split at e
    · rename_i hz
      cases e
      cases r1 with
      | lst h1 a1 =>
        rename_i p xs
        cases r2 with
        | lst h2 a2 =>
          rename_i p2 xs2
          have l1 := a1.len
          have l2 := a2.len
          refine op_cat pins s σ H _ _ v u Q I rx ry ⟨p, p2, xs, xs2, rfl, rfl, sb _ _ h1, sb _ _ h2, by omega, fun g ng => ?_⟩
          refine q _ _ _ (Gw.new sb (.lst (xs ++ xs2)) ng) (.lst upd_same ?_)
          exact (a1.app a2).mono (Gw.new sb (.lst (xs ++ xs2)) ng).b
    · cases e
  · cases e
theorem vop_sub : OpR X (binaryOp .Sub) (vOp X.K dSub) := by
  intro pins s σ H x y v u Q I rx ry ⟨B, d1, d2, d, sb, r1, r2, e, q⟩
  unfold dSub at e
  split at e
  · rename_i a b
    cases e
    obtain rfl := r1.of_int
    obtain rfl := r2.of_int
    exact op_sub pins s σ H _ _ v u Q I rx ry ⟨a, b, rfl, rfl, q _ B H (Gw.refl sb) (.int _)⟩
  · cases e
theorem vop_mul : OpR X (binaryOp .Mult) (vOp X.K dMul) := by
  intro pins s σ H x y v u Q I rx ry ⟨B, d1, d2, d, sb, r1, r2, e, q⟩
  unfold dMul at e
  have hz := sizeLine_eq
  split at e
  · rename_i a b
    split at e
    · rename_i hf
      cases e
      obtain rfl := r1.of_int
      obtain rfl := r2.of_int
      exact op_mulW pins s σ H _ _ v u Q I rx ry ⟨a, b, rfl, rfl, (show a.natAbs.log2 + b.natAbs.log2 < 1000000 from of_decide_eq_true hf), q _ B H (Gw.refl sb) (.int _)⟩
    · cases e
  · rename_i a k
    split at e
    · rename_i hf
      cases e
      obtain rfl := r2.of_int
      cases r1 with
      | lst h1 a1 =>
        rename_i p xs
        have l1 := a1.len
        have hm : xs.length * k.toNat ≤ 1000 * 1000 := Nat.mul_le_mul (by omega) (by omega)
        refine op_rep pins s σ H _ _ v u Q I rx ry ⟨p, k, xs, rfl, rfl, sb _ _ h1, by omega, by omega, by omega, fun g ng => ?_⟩
        refine q _ _ _ (Gw.new sb _ ng) (.lst upd_same ?_)
        exact (a1.rep _).mono (Gw.new sb _ ng).b
    · cases e
  · rename_i a k
    split at e
    · rename_i hf
      cases e
      obtain rfl := r2.of_int
      cases r1 with
      | tup h1 a1 =>
        rename_i p xs
        have l1 := a1.len
        refine op_repT pins s σ H _ _ v u Q I rx ry ⟨p, k, xs, rfl, rfl, Same.seqT sb h1, fun z => ?_, hf.2.1, hf.2.2.1, by omega, fun g ng => ?_⟩
        · subst z; cases a1; exact hf.1 rfl
        · refine q _ _ _ (Gw.new sb _ ng) (.tup (SqT.of upd_same) ?_)
          exact (a1.rep _).mono (Gw.new sb _ ng).b
    · cases e
  · cases e
theorem op_fdivG : OpR X (binaryOp .FloorDiv) (rI (fun _ j => j ≠ 0 ∧ j.natAbs.log2 < 9000) fun i j => .int (i.fdiv j)) :=
  opI fun _ _ _ _ _ _ _ hc q => floordiv_int hc.1 q (Or.inl (PyProof.noPylong_of_log2 hc.2))
theorem vop_div : OpR X (binaryOp .FloorDiv) (vOp X.K dDiv) := by
  intro pins s σ H x y v u Q I rx ry ⟨B, d1, d2, d, sb, r1, r2, e, q⟩
  unfold dDiv at e
  split at e
  · rename_i a b
    split at e
    · rename_i hf
      cases e
      obtain rfl := r1.of_int
      obtain rfl := r2.of_int
      simp only [divFits, Bool.and_eq_true, decide_eq_true_eq] at hf
      exact op_fdivG pins s σ H _ _ v u Q I rx ry ⟨a, b, rfl, rfl, hf, q _ B H (Gw.refl sb) (.int _)⟩
    · cases e
  · cases e
theorem vop_mod : OpR X (binaryOp .Mod) (vOp X.K dMod) := by
  intro pins s σ H x y v u Q I rx ry ⟨B, d1, d2, d, sb, r1, r2, e, q⟩
  unfold dMod at e
  split at e
  · rename_i a b
    split at e
    · rename_i hf
      cases e
      obtain rfl := r1.of_int
      obtain rfl := r2.of_int
      exact op_modN pins s σ H _ _ v u Q I rx ry ⟨a, b, rfl, rfl, hf, q _ B H (Gw.refl sb) (.int _)⟩
    · cases e
  · cases e
theorem vop_pow : OpR X (binaryOp .Pow) (vOp X.K dPow) := by
  intro pins s σ H x y v u Q I rx ry ⟨B, d1, d2, d, sb, r1, r2, e, q⟩
  unfold dPow at e
  split at e
  · rename_i a b
    split at e
    · rename_i hf
      cases e
      obtain rfl := r1.of_int
      obtain rfl := r2.of_int
      exact op_pow pins s σ H _ _ v u Q I rx ry ⟨a, b, rfl, rfl, hf, q _ B H (Gw.refl sb) (.int _)⟩
    · cases e
  · cases e
theorem vun_neg : UnR X (unaryOp .USub) (vUn X.K dNeg) := by
  intro pins s σ H x v Q I rx ⟨B, d1, d, sb, r1, e, q⟩
  unfold dNeg at e
  split at e
  · rename_i a
    cases e
    obtain rfl := r1.of_int
    exact un_neg pins s σ H _ v Q I rx ⟨a, rfl, q _ B H (Gw.refl sb) (.int _)⟩
  · cases e

/-! ### comparisons -/
def dEq : PyData → PyData → Option PyData
  | .str x, .str y => some (.bool (x == y))
  | a, b => if SeqAt.shaped a && SeqAt.shaped b then some (.bool (PyData.eqv a b)) else none
def dNe : PyData → PyData → Option PyData
  | .str x, .str y => some (.bool (!(x == y)))
  | a, b => if SeqAt.shaped a && SeqAt.shaped b then some (.bool (!PyData.eqv a b)) else none
theorem dec_str' {x y : Str} : decide (V.str x = V.str y) = (x == y) := by
  rw [Bool.eq_iff_iff]
  simp
def dOrd (p : Int → Int → Bool) : PyData → PyData → Option PyData
  | .int a, .int b => some (.bool (p a b))
  | _, _ => none
abbrev dLt := dOrd fun a b => decide (a < b)
abbrev dLe := dOrd fun a b => decide (a ≤ b)
abbrev dGt := dOrd fun a b => decide (b < a)
abbrev dGe := dOrd fun a b => decide (b ≤ a)
def isNon : PyData → Bool
  | .none => true
  | _ => false
def dIs : PyData → PyData → Option PyData
  | a, .none => some (.bool (isNon a))
  | _, _ => none
def dIsNot : PyData → PyData → Option PyData
  | a, .none => some (.bool (!isNon a))
  | _, _ => none
theorem Dp.of {K : PySem.W.Frag} {B H : Hp} (s : Same B H) {v : V} {d : PyData} (r : Rp K B v d) : Dp K H v d := (r.mono s).dp
theorem vop_eq (hu : X.A.units + 64 < cLine) : OpR X (compareOp .Eq) (vOp X.K dEq) := by
  intro pins s σ H x y v u Q I rx ry ⟨B, d1, d2, d, sb, r1, r2, e, q⟩
  unfold dEq at e
  split at e
  · cases e
    obtain rfl := r1.of_str
    obtain rfl := r2.of_str
    refine op_eq pins s σ H _ _ v u Q I rx ry ⟨rfl, ?_⟩
    rw [dec_str']
    exact q _ B H (Gw.refl sb) (.bl _)
  split at e
  · rename_i hf
    cases e
    simp only [Bool.and_eq_true] at hf
    exact op_eqD hu pins s σ H _ _ v u Q I rx ry ⟨d1, d2, Dp.of sb r1, Dp.of sb r2, hf.1, hf.2, q _ B H (Gw.refl sb) (.bl _)⟩
  · cases e
theorem vop_ne (hu : X.A.units + 64 < cLine) : OpR X (compareOp .NotEq) (vOp X.K dNe) := by
  intro pins s σ H x y v u Q I rx ry ⟨B, d1, d2, d, sb, r1, r2, e, q⟩
  unfold dNe at e
  split at e
  · cases e
    obtain rfl := r1.of_str
    obtain rfl := r2.of_str
    refine op_ne pins s σ H _ _ v u Q I rx ry ⟨rfl, ?_⟩
    rw [dec_str']
    exact q _ B H (Gw.refl sb) (.bl _)
  split at e
  · rename_i hf
    cases e
    simp only [Bool.and_eq_true] at hf
    exact op_neD hu pins s σ H _ _ v u Q I rx ry ⟨d1, d2, Dp.of sb r1, Dp.of sb r2, hf.1, hf.2, q _ B H (Gw.refl sb) (.bl _)⟩
  · cases e
theorem vop_ord {op : CmpOp} {p : Int → Int → Bool} (ho : OpR X (compareOp op) (rI0 fun i j => .bl (p i j))) : OpR X (compareOp op) (vOp X.K (dOrd p)) := by
  intro pins s σ H x y v u Q I rx ry ⟨B, d1, d2, d, sb, r1, r2, e, q⟩
  unfold dOrd at e
  split at e
  · rename_i a b
    cases e
    obtain rfl := r1.of_int
    obtain rfl := r2.of_int
    exact ho pins s σ H _ _ v u Q I rx ry ⟨a, b, rfl, rfl, q _ B H (Gw.refl sb) (.bl _)⟩
  · cases e
theorem vop_lt : OpR X (compareOp .Lt) (vOp X.K dLt) := vop_ord op_lt
theorem vop_le : OpR X (compareOp .LtE) (vOp X.K dLe) := vop_ord op_le
theorem vop_gt : OpR X (compareOp .Gt) (vOp X.K dGt) := vop_ord op_gt
theorem vop_ge : OpR X (compareOp .GtE) (vOp X.K dGe) := vop_ord op_ge
theorem Rp.non_iff {K : PySem.W.Frag} {B : Hp} {v : V} {d : PyData} (r : Rp K B v d) : decide (v = .non) = isNon d := by
  cases r <;> simp [isNon]
theorem vop_is : OpR X (compareOp .Is) (vOp X.K dIs) := by
  intro pins s σ H x y v u Q I rx ry ⟨B, d1, d2, d, sb, r1, r2, e, q⟩
  unfold dIs at e
  split at e
  · cases e
    obtain rfl := r2.of_non
    refine op_isN pins s σ H _ _ v u Q I rx ry ⟨rfl, ?_⟩
    rw [r1.non_iff]
    exact q _ B H (Gw.refl sb) (.bl _)
  · cases e
theorem vop_isnot : OpR X (compareOp .IsNot) (vOp X.K dIsNot) := by
  intro pins s σ H x y v u Q I rx ry ⟨B, d1, d2, d, sb, r1, r2, e, q⟩
  unfold dIsNot at e
  split at e
  · cases e
    obtain rfl := r2.of_non
    refine op_notN pins s σ H _ _ v u Q I rx ry ⟨rfl, ?_⟩
    rw [r1.non_iff]
    exact q _ B H (Gw.refl sb) (.bl _)
  · cases e
/-- text in text -/
def strIn (x y : Str) : Bool := !(Builtin.Str.occurrences y x 0 y.length 1).isEmpty
def flatD : PyData → Bool
  | .none | .bool _ | .int _ | .str _ => true
  | _ => false
def inD (a : PyData) (xs : List PyData) : Bool := xs.any fun z => PyData.eqv z a
def dIn : PyData → PyData → Option PyData
  | .str a, .str b => some (.bool (strIn a b))
  | a, .tuple xs => if flatD a && xs.all flatD then some (.bool (inD a xs)) else none
  | a, .list xs => if SeqAt.shaped a && SeqAt.shaped (.list xs) then some (.bool (inD a xs)) else none
  | _, _ => none
def dNotIn (a b : PyData) : Option PyData := match dIn a b with
  | some (.bool k) => some (.bool (!k))
  | _ => none
theorem flat_V {K : PySem.W.Frag} {B : Hp} {v : V} {d : PyData} (r : Rp K B v d) (f : flatD d = true) : flatV v = true := by
  cases r <;> first | rfl | (simp [flatD] at f)
theorem flat_Vs {K : PySem.W.Frag} {B : Hp} {vs : List V} {ds : List PyData} (r : RpA K B vs ds) (f : ds.all flatD = true) : vs.all flatV = true := by
  induction ds generalizing vs with
  | nil => cases r; rfl
  | cons d ds ih =>
    cases r with
    | cons h t =>
      simp only [List.all_cons, Bool.and_eq_true] at f ⊢
      exact ⟨flat_V h f.1, ih t f.2⟩
theorem eqv_V {K : PySem.W.Frag} {B : Hp} {v w : V} {d e : PyData} (r : Rp K B v d) (t : Rp K B w e) (f : flatD d = true) (g : flatD e = true) : eqV v w = PyData.eqv d e := by
  cases r <;> cases t <;> first | (simp [flatD] at f; done) | (simp [flatD] at g; done) | (simp [eqV, PyData.eqv]; done) | (simp [eqV, PyData.eqv, Bool.beq_eq_decide_eq]; done) | skip
end
end DL
end L2

set_option Elab.async false
set_option linter.all false
set_option maxRecDepth 100000
namespace L2
open PySem PySem.Spec PyProof.Rows
namespace DL
section
variable {X : Cx}
theorem inD_V {K : PySem.W.Frag} {B : Hp} {v : V} {d : PyData} (r : Rp K B v d) (f : flatD d = true) {vs : List V} {ds : List PyData} (t : RpA K B vs ds) (g : ds.all flatD = true) : inV v vs = inD d ds := by
  unfold inV inD
  induction ds generalizing vs with
  | nil => cases t; rfl
  | cons e ds ih =>
    cases t with
    | cons h t =>
      simp only [List.all_cons, Bool.and_eq_true] at g
      rw [List.any_cons, List.any_cons, eqv_V h r g.1 f, ih t g.2]
theorem vop_in_aux {neg : Bool} {op : CmpOp} (ho : OpR X (compareOp op) (rIn X.K neg)) (hd : OpR X (compareOp op) (fun x y H Q => ∃ d ds, Dp X.K H x d ∧ Dp X.K H y (.list ds) ∧ SeqAt.shaped d = true ∧ SeqAt.shaped (.list ds) = true ∧ Q (.bl (if neg then !inD d ds else inD d ds)) H))
    (hs : OpR X (compareOp op) (fun x y H Q => ∃ i j, x = .str i ∧ y = .str j ∧ Q (.bl (if neg then !strIn i j else strIn i j)) H)) : OpR X (compareOp op) (vOp X.K (if neg then dNotIn else dIn)) := by
  intro pins s σ H x y v u Q I rx ry ⟨B, d1, d2, d, sb, r1, r2, e, q⟩
  have key : ∃ k, dIn d1 d2 = some (.bool k) ∧ d = .bool (if neg then !k else k) := by
    cases neg with
    | true =>
      simp only [if_true] at e
      unfold dNotIn at e
      split at e
      · rename_i k ek; cases e; exact ⟨k, ek, rfl⟩
      · cases e
    | false =>
      simp only [if_false, Bool.false_eq_true] at e
      unfold dIn at e ⊢
      split at e
      · cases e; exact ⟨_, rfl, rfl⟩
      · split at e
        · rename_i hf
          cases e; exact ⟨_, by rw [if_pos hf]; rfl, rfl⟩
        · cases e
      · split at e
        · rename_i hf
          cases e; exact ⟨_, by rw [if_pos hf]; rfl, rfl⟩
        · cases e
      · cases e
  obtain ⟨k, e1, rfl⟩ := key
  unfold dIn at e1
  split at e1
  · rename_i a b
    cases e1
    obtain rfl := r1.of_str
    obtain rfl := r2.of_str
    exact hs pins s σ H _ _ v u Q I rx ry ⟨a, b, rfl, rfl, q _ B H (Gw.refl sb) (.bl _)⟩
  · rename_i xs _
    split at e1
    · rename_i hf
      cases e1
      simp only [Bool.and_eq_true] at hf
      cases r2 with
      | tup h2 a2 =>
        rename_i p vs
        refine ho pins s σ H _ _ v u Q I rx ry ⟨p, vs, rfl, .inr (Same.seqT sb h2), flat_V r1 hf.1, flat_Vs a2 hf.2, ?_⟩
        rw [inD_V r1 hf.1 a2 hf.2]
        exact q _ B H (Gw.refl sb) (.bl _)
    · cases e1
  · rename_i xs
    split at e1
    · rename_i hf
      cases e1
      simp only [Bool.and_eq_true] at hf
      exact hd pins s σ H _ _ v u Q I rx ry ⟨d1, xs, Dp.of sb r1, Dp.of sb r2, hf.1, hf.2, q _ B H (Gw.refl sb) (.bl _)⟩
    · cases e1
  · cases e1
theorem vop_in (hu : X.A.units + 65 < cLine) : OpR X (compareOp .In) (vOp X.K dIn) :=
  vop_in_aux (neg := false) op_in_seq (op_inD hu) op_in_str
theorem vop_notin (hu : X.A.units + 65 < cLine) : OpR X (compareOp .NotIn) (vOp X.K dNotIn) :=
  vop_in_aux (neg := true) op_notIn_seq (op_notInD hu) op_notIn_str

/-! ### subscripts -/
def dIx : PyData → PyData → Option PyData
  | .list xs, .int i => atI xs i
  | .tuple xs, .int i => atI xs i
  | .str z, .int i => if z.length ≤ sizeLine then (atI z.cps.toList i).map fun c => .str ⟨#[c]⟩ else none
  | _, _ => none
theorem atI_rp {K : PySem.W.Frag} {B : Hp} {vs : List V} {ds : List PyData} (t : RpA K B vs ds) {i : Int} {d : PyData} (e : atI ds i = some d) : ∃ v, atI vs i = some v ∧ Rp K B v d := by
  unfold atI at e ⊢
  rw [t.len]
  cases h : ixN ds.length i with
  | none => rw [h] at e; cases e
  | some j => rw [h] at e; exact t.get e
theorem vix : IxR X (vOp X.K dIx) := by
  intro value slice pins s σ H x y v u Q I rx ry ⟨B, d1, d2, d, sb, r1, r2, e, q⟩ hsub
  refine ix_seq value slice pins s σ H x y v u Q I rx ry ?_ hsub
  unfold dIx at e
  split at e
  · rename_i xs i
    obtain rfl := r2.of_int
    cases r1 with
    | lst h1 a1 =>
      obtain ⟨w, e1, r⟩ := atI_rp a1 e
      exact .inl ⟨_, _, i, w, rfl, rfl, SqL.of (sb _ _ h1), e1, q _ B H (Gw.refl sb) r⟩
  · rename_i xs i
    obtain rfl := r2.of_int
    cases r1 with
    | tup h1 a1 =>
      obtain ⟨w, e1, r⟩ := atI_rp a1 e
      exact .inr (.inl ⟨_, _, i, w, rfl, rfl, Same.seqT sb h1, e1, q _ B H (Gw.refl sb) r⟩)
  · rename_i z i
    obtain rfl := r1.of_str
    obtain rfl := r2.of_int
    split at e
    · rename_i hz
      cases h : atI z.cps.toList i with
      | none => rw [h] at e; cases e
      | some c =>
        rw [h] at e
        cases e
        exact .inr (.inr ⟨z, i, c, rfl, rfl, hz, h, q _ B H (Gw.refl sb) (.str _)⟩)
    · cases e
  · cases e
/-- a cut of a list -/
def cutD {α : Type} (xs : List α) (lo hi : Option Int) : List α := (xs.drop (HT.sIx xs.length 0 lo)).take (HT.sIx xs.length xs.length hi - HT.sIx xs.length 0 lo)
def dSl (d : PyData) (lo hi : Option Int) : Option PyData := match d with
  | .str z => if z.length ≤ sizeLine then some (.str (cutS z lo hi)) else none
  | .tuple xs => some (.tuple (cutD xs lo hi))
  | .list xs => some (.list (cutD xs lo hi))
  | _ => none
def vSl (K : PySem.W.Frag) (sf : PyData → Option Int → Option Int → Option PyData) : V → Option Int → Option Int → Hp → VK → Prop := fun x lo hi H Q => ∃ B d1 d, Same B H ∧ Rp K B x d1 ∧ sf d1 lo hi = some d ∧
  ∀ v B' H', Gw B H B' H' → Rp K B' v d → Q v H'
theorem cut_rp {K : PySem.W.Frag} {B : Hp} {vs : List V} {ds : List PyData} (t : RpA K B vs ds) (lo hi : Option Int) : RpA K B (cutV vs lo hi) (cutD ds lo hi) := by
  unfold cutV cutD
  rw [t.len]
  exact (t.drop _).take _
theorem cut_whole {α : Type} (xs : List α) (lo hi : Option Int) (h : HT.sIx xs.length 0 lo = 0 ∧ HT.sIx xs.length xs.length hi = xs.length) : cutD xs lo hi = xs := by
  unfold cutD
  rw [h.1, h.2, List.drop_zero, Nat.sub_zero, List.take_length]
theorem vsl : SlR X (vSl X.K dSl) := by
  have h0 := ((@sl_str X).or (@sl_tupA X)).or (@sl_list X)
  intro pins s σ H x v vl vu lo hi sl Q I rx hs pl pu ⟨B, d1, d, sb, r1, e, q⟩
  refine h0 pins s σ H x v vl vu lo hi sl Q I rx hs pl pu ?_
  unfold dSl at e
  split at e
  · rename_i z
    obtain rfl := r1.of_str
    split at e
    · rename_i hz
      cases e
      exact .inl (.inl ⟨z, rfl, hz, q _ B H (Gw.refl sb) (.str _)⟩)
    · cases e
  · rename_i xs
    cases e
    cases r1 with
    | tup h1 a1 =>
      rename_i p vs
      refine .inl (.inr ⟨p, vs, rfl, Same.seqT sb h1, fun hw => ?_, fun _ g ng => ?_⟩)
      · rw [a1.len] at hw
        rw [cut_whole xs lo hi hw] at q
        exact q _ B H (Gw.refl sb) (.tup h1 a1)
      · exact q _ _ _ (Gw.new sb _ ng) (.tup (SqT.of upd_same) ((cut_rp a1 lo hi).mono (Gw.new sb _ ng).b))
  · rename_i xs
    cases e
    cases r1 with
    | lst h1 a1 =>
      rename_i p vs
      refine .inr ⟨p, vs, rfl, SqL.of (sb _ _ h1), fun g ng => ?_⟩
      exact q _ _ _ (Gw.new sb _ ng) (.lst upd_same ((cut_rp a1 lo hi).mono (Gw.new sb _ ng).b))
  · cases e
abbrev FO := En → Int → R (Option Int)
def PostO (p : Par) (σ : St) (ρ : En) (B : Hp) (Q : Option Int → Hp → Prop) : R (Option Int) → Prop
  | .ok b c' => ∀ B' H', Sta p B' H' σ ρ c' → Same B B' → Q b H'
  | .ex x c' => ∀ B' H' cls d, Sta p B' H' σ ρ c' → Same B B' → ExOk p.K p.xt B' H' cls d x → p.W cls d σ H'
  | .no => False
def dO (p : Par) (f : FO) : TO := fun σ H Q => ∃ B ρ c, Sta p B H σ ρ c ∧ PostO p σ ρ B Q (f ρ c)
theorem _root_.L2.PO.imp {X : Cx} {e : Option Expr} {t t' : TO} (h : PO X e t) (hi : ∀ σ H Q, t' σ H Q → t σ H Q) : PO X e t' := ⟨fun pins s σ H Q I q => h.run pins s σ H Q I (hi σ H Q q)⟩
theorem PostO.from {p : Par} {σ : St} {ρ : En} {B B' : Hp} {Q : Option Int → Hp → Prop} {r : R (Option Int)} (h : PostO p σ ρ B Q r) (s : Same B B') : PostO p σ ρ B' Q r := by
  cases r with
  | ok d c => exact fun B2 H2 S z => h B2 H2 S (s.trans z)
  | ex x c => exact fun B2 H2 cls d S z e => h B2 H2 cls d S (s.trans z) e
  | no => exact h
theorem PostO.bE {p : Par} {σ : St} {ρ : En} {B : Hp} {Q : Option Int → Hp → Prop} {Q' : VK} {r : R PyData} {k : PyData → Int → R (Option Int)} (h : PostO p σ ρ B Q (r.bind k))
    (hq : ∀ d c' v B' H', Sta p B' H' σ ρ c' → Rp p.K B' v d → Same B B' → PostO p σ ρ B' Q (k d c') → Q' v H') : PostE p σ ρ B Q' r := by
  cases r with
  | ok d c => exact fun v B2 H2 S z r => hq d c v B2 H2 S r z (PostO.from h z)
  | ex x c => exact h
  | no => exact h
theorem PostE.bO {p : Par} {σ : St} {ρ : En} {B : Hp} {Q : VK} {Q' : Option Int → Hp → Prop} {r : R (Option Int)} {k : Option Int → Int → R PyData} (h : PostE p σ ρ B Q (r.bind k))
    (hq : ∀ b c' B' H', Sta p B' H' σ ρ c' → Same B B' → PostE p σ ρ B' Q (k b c') → Q' b H') : PostO p σ ρ B Q' r := by
  cases r with
  | ok d c => exact fun B2 H2 S z => hq d c B2 H2 S z (PostE.from h z)
  | ex x c => exact h
  | no => exact h
section
variable {p : Par} {pos p2 : Pos} {a b c : Expr} {f g h : FE} {lo hi : Option Expr} {fl fh : FO} {ft fu : FT} {rest : List Expr}
def fPn : FO := fun _ c => .ok none c
def asI : PyData → Option (Option Int)
  | .int i => some (some i)
  | _ => none
def fPs (f : FE) : FO := fun ρ c => (f ρ c).bind fun d c1 => ofO (asI d) c1
theorem do_none : PO X none (dO p fPn) := po_none.imp fun σ H Q ⟨B, ρ, c, S, m⟩ => m B H S (Same.refl _)
theorem do_some (ha : PE X a (dE p f)) : PO X (some a) (dO p (fPs f)) := (po_some ha).imp fun σ H Q ⟨B, ρ, c, S, m⟩ => by
  refine ⟨B, ρ, c, S, PostO.bE m fun d c1 v B1 H1 S1 r1 s1 m1 => ?_⟩
  unfold asI at m1
  split at m1
  · rename_i i
    exact ⟨i, r1.of_int, m1 B1 H1 S1 (Same.refl _)⟩
  · exact m1.elim
def fSl (f : FE) (fl fh : FO) : FE := fun ρ c => (f ρ c).bind fun d c1 => (fl ρ c1).bind fun l c2 => (fh ρ c2).bind fun u c3 => ofO (dSl d l u) c3
theorem de_sl (hk : p.K = X.K) (ha : PE X a (dE p f)) (hl : PO X lo (dO p fl)) (hu : PO X hi (dO p fh)) : PE X (.Subscript a (.Slice lo hi none p2) pos) (dE p (fSl f fl fh)) :=
  (pe_slice vsl ha hl hu).imp fun σ H Q ⟨B, ρ, c, S, m⟩ => by
    refine ⟨B, ρ, c, S, m.bE fun d c1 v B1 H1 S1 r1 s1 m1 => ⟨B1, ρ, c1, S1, PostE.bO m1 fun l c2 B2 H2 S2 s2 m2 => ⟨B2, ρ, c2, S2, PostE.bO m2 fun u c3 B3 H3 S3 s3 m3 => ?_⟩⟩⟩
    obtain ⟨d', e, q⟩ := ofO_ok m3
    exact ⟨B3, d, d', S3.sub, hk ▸ (r1.mono (s2.trans s3)), e, fun v B' H' G r => q v B' H' (S3.grow G) G.b (hk ▸ r)⟩

/-! ### truth, and, or, not, if -/
theorem truth_V {K : PySem.W.Frag} {B H : Hp} (sb : Same B H) {v : V} {d : PyData} (r : Rp K B v d) {k : Bool} (e : truth d = some k) : TruV K v H k := by
  cases r with
  | non => cases e; exact rfl
  | bl b => cases e; exact rfl
  | int i => cases e; exact rfl
  | str x =>
    simp only [truth] at e
    split at e
    · rename_i hz
      cases e
      refine ⟨hz, ?_⟩
      by_cases h0 : x.length = 0
      · rw [h0]; rfl
      · have h1 : ((x.length : Int) != 0) = true := by simpa using h0
        have h2 : (x.length != 0) = true := by simpa using h0
        rw [h1, h2]
    · cases e
  | lst h t =>
    rename_i a vs ds
    cases e
    refine .inl ⟨vs, SqL.of (sb _ _ h), ?_⟩
    cases t <;> rfl
  | tup h t =>
    rename_i a vs ds
    cases e
    refine .inr (.inl ⟨vs, Same.seqT sb h, ?_⟩)
    cases t <;> rfl
theorem dt_tr (hk : p.K = X.K) (ha : PE X a (dE p f)) (he : ∀ whole, isTrue a X.env whole = (do let v ← whole; standAt a.pos; holding [v] (truthy v)) := by intro _; rfl) : PT X a (dT p (tTr f)) :=
  (pt_truth ha he).imp fun σ H Q ⟨B, ρ, c, S, m⟩ => by
    refine ⟨B, ρ, c, S, m.bE fun d c1 v B1 H1 S1 r1 s1 m1 => ?_⟩
    cases e : truth d with
    | none => rw [e] at m1; exact m1.elim
    | some k =>
      rw [e] at m1
      exact ⟨k, hk ▸ truth_V S1.sub r1 e, m1 B1 H1 S1 (Same.refl _)⟩
def tAn (f g : FT) : FT := fun ρ c => (f ρ c).bind fun k c1 => if k = true then g ρ c1 else .ok false c1
def tOr' (f g : FT) : FT := fun ρ c => (f ρ c).bind fun k c1 => if k = true then .ok true c1 else g ρ c1
def tNo (f : FT) : FT := fun ρ c => (f ρ c).bind fun k c1 => .ok (!k) c1
theorem dw_an1 (ha : PT X a (dT p ft)) : PW X (.BoolOp .And [a] pos) (dT p ft) := pw_and1 ha
theorem dw_or1 (ha : PT X a (dT p ft)) : PW X (.BoolOp .Or [a] pos) (dT p ft) := pw_or1 ha
theorem dw_an (ha : PT X a (dT p ft)) (hb : PW X (.BoolOp .And (b :: rest) pos) (dT p fu)) : PW X (.BoolOp .And (a :: b :: rest) pos) (dT p (tAn ft fu)) :=
  (pw_and ha hb).imp fun σ H Q ⟨B, ρ, c, S, m⟩ => by
    refine ⟨B, ρ, c, S, m.bT fun k c1 B1 H1 S1 s1 m1 => ?_⟩
    cases k with
    | true => exact ⟨B1, ρ, c1, S1, m1⟩
    | false => exact m1 B1 H1 S1 (Same.refl _)
theorem dw_or (ha : PT X a (dT p ft)) (hb : PW X (.BoolOp .Or (b :: rest) pos) (dT p fu)) : PW X (.BoolOp .Or (a :: b :: rest) pos) (dT p (tOr' ft fu)) :=
  (pw_or ha hb).imp fun σ H Q ⟨B, ρ, c, S, m⟩ => by
    refine ⟨B, ρ, c, S, m.bT fun k c1 B1 H1 S1 s1 m1 => ?_⟩
    cases k with
    | false => exact ⟨B1, ρ, c1, S1, m1⟩
    | true => exact m1 B1 H1 S1 (Same.refl _)
theorem dt_not (ha : PT X a (dT p ft)) : PT X (.UnaryOp .Not a pos) (dT p (tNo ft)) :=
  (pt_not ha).imp fun σ H Q ⟨B, ρ, c, S, m⟩ => ⟨B, ρ, c, S, m.bT fun k c1 B1 H1 S1 s1 m1 => m1 B1 H1 S1 (Same.refl _)⟩
/-- as values -/
def fAn (f g : FE) : FE := fun ρ c => (f ρ c).bind fun d c1 => (ofO (truth d) c1).bind fun k c2 => if k = true then g ρ c2 else .ok d c2
def fOr (f g : FE) : FE := fun ρ c => (f ρ c).bind fun d c1 => (ofO (truth d) c1).bind fun k c2 => if k = true then .ok d c2 else g ρ c2
def fNo (f : FE) : FE := fun ρ c => (f ρ c).bind fun d c1 => (ofO (truth d) c1).bind fun k c2 => .ok (.bool (!k)) c2
theorem de_one {op : BoolOp} (ha : PE X a (dE p f)) : PE X (.BoolOp op [a] pos) (dE p f) := pe_one ha
theorem de_an (hk : p.K = X.K) (ha : PE X a (dE p f)) (hb : PE X (.BoolOp .And (b :: rest) pos) (dE p g)) : PE X (.BoolOp .And (a :: b :: rest) pos) (dE p (fAn f g)) :=
  (pe_andT ha hb).imp fun σ H Q ⟨B, ρ, c, S, m⟩ => by
    refine ⟨B, ρ, c, S, m.bE fun d c1 v B1 H1 S1 r1 s1 m1 => ?_⟩
    cases e : truth d with
    | none => rw [e] at m1; exact m1.elim
    | some k =>
      rw [e] at m1
      refine ⟨k, hk ▸ truth_V S1.sub r1 e, ?_⟩
      cases k with
      | true => exact ⟨B1, ρ, c1, S1, m1⟩
      | false => exact m1 v B1 H1 S1 (Same.refl _) r1
theorem de_or (hk : p.K = X.K) (ha : PE X a (dE p f)) (hb : PE X (.BoolOp .Or (b :: rest) pos) (dE p g)) : PE X (.BoolOp .Or (a :: b :: rest) pos) (dE p (fOr f g)) :=
  (pe_orT ha hb).imp fun σ H Q ⟨B, ρ, c, S, m⟩ => by
    refine ⟨B, ρ, c, S, m.bE fun d c1 v B1 H1 S1 r1 s1 m1 => ?_⟩
    cases e : truth d with
    | none => rw [e] at m1; exact m1.elim
    | some k =>
      rw [e] at m1
      refine ⟨k, hk ▸ truth_V S1.sub r1 e, ?_⟩
      cases k with
      | false => exact ⟨B1, ρ, c1, S1, m1⟩
      | true => exact m1 v B1 H1 S1 (Same.refl _) r1
theorem de_not (hk : p.K = X.K) (ha : PE X a (dE p f)) : PE X (.UnaryOp .Not a pos) (dE p (fNo f)) :=
  (pe_notT ha).imp fun σ H Q ⟨B, ρ, c, S, m⟩ => by
    refine ⟨B, ρ, c, S, m.bE fun d c1 v B1 H1 S1 r1 s1 m1 => ?_⟩
    cases e : truth d with
    | none => rw [e] at m1; exact m1.elim
    | some k =>
      rw [e] at m1
      exact ⟨k, hk ▸ truth_V S1.sub r1 e, m1 _ B1 H1 S1 (Same.refl _) (.bl _)⟩
def fIf (t : FT) (f g : FE) : FE := fun ρ c => (t ρ c).bind fun k c1 => if k = true then f ρ c1 else g ρ c1
theorem de_if (hc : PT X c (dT p ft)) (ha : PE X a (dE p f)) (hb : PE X b (dE p g)) : PE X (.IfExp c a b pos) (dE p (fIf ft f g)) :=
  (pe_ifExp hc ha hb).imp fun σ H Q ⟨B, ρ, c, S, m⟩ => by
    refine ⟨B, ρ, c, S, m.bT fun k c1 B1 H1 S1 s1 m1 => ?_⟩
    cases k with
    | true => exact ⟨B1, ρ, c1, S1, m1⟩
    | false => exact ⟨B1, ρ, c1, S1, m1⟩
/-- a < b < c -/
def fCh (bf bf' : PyData → PyData → Option PyData) (f g h : FE) : FE := fun ρ c => (f ρ c).bind fun x c1 => (g ρ c1).bind fun y c2 => (ofO ((bf x y).bind asB) c2).bind fun k c3 => if k = true then (h ρ c3).bind fun z c4 => ofO (bf' y z) c4 else .ok (.bool false) c3
theorem chain_ok {bf bf' : PyData → PyData → Option PyData} {σ : St} {H : Hp} {Q : VK} (m0 : dE p (fCh bf bf' f g h) σ H Q) : tChain (vOp p.K bf) (vOp p.K bf') (dE p f) (dE p g) (dE p h) σ H Q := by
  obtain ⟨B, ρ, c, S, m⟩ := m0
  refine ⟨B, ρ, c, S, m.bE fun x c1 v B1 H1 S1 r1 s1 m1 => ⟨B1, ρ, c1, S1, m1.bE fun y c2 u B2 H2 S2 r2 s2 m2 => ?_⟩⟩
  cases e : bf x y with
  | none => rw [e] at m2; exact m2.elim
  | some w =>
    cases e2 : asB w with
    | none => rw [e, Option.bind_some, e2] at m2; exact m2.elim
    | some k =>
      rw [e, Option.bind_some, e2] at m2
      have ew := asB_some e2
      subst ew
      refine ⟨B2, x, y, .bool k, S2.sub, r1.mono s2, r2, e, fun v' B' H' G r => ⟨k, r.of_bl, ?_⟩⟩
      have S3 := S2.grow G
      cases k with
      | false => exact m2 _ B' H' S3 G.b (.bl _)
      | true =>
        refine ⟨B', ρ, c2, S3, (PostE.from m2 G.b).bE fun z c3 w' B4 H4 S4 r4 s4 m4 => ?_⟩
        obtain ⟨d', e', q⟩ := ofO_ok m4
        exact ⟨B4, y, z, d', S4.sub, r2.mono (G.b.trans s4), r4, e', fun v' B' H' G r => q v' B' H' (S4.grow G) G.b r⟩
theorem de_ch {op op' : CmpOp} {bf bf' : PyData → PyData → Option PyData} (ho : OpR X (compareOp op) (vOp p.K bf)) (ho' : OpR X (compareOp op') (vOp p.K bf')) (ha : PE X a (dE p f)) (hb : PE X b (dE p g)) (hc : PE X c (dE p h))
    (hm : lastMarks [op, op'] [b, c] = false := by with_unfolding_all rfl) : PE X (.Compare a [op, op'] [b, c] pos) (dE p (fCh bf bf' f g h)) :=
  (pe_chain ho ho' ha hb hc hm).imp fun _ _ _ h => chain_ok h
theorem dt_ch {op op' : CmpOp} {bf bf' : PyData → PyData → Option PyData} (ho : OpR X (compareOp op) (vOp p.K bf)) (ho' : OpR X (compareOp op') (vOp p.K bf')) (ha : PE X a (dE p f)) (hb : PE X b (dE p g)) (hc : PE X c (dE p h))
    (hm : lastMarks [op, op'] [b, c] = false := by with_unfolding_all rfl) : PT X (.Compare a [op, op'] [b, c] pos) (dT p (tB1 (fCh bf bf' f g h))) :=
  (pt_chain ho ho' ha hb hc hm).imp fun σ H Q h => by
    obtain ⟨B, ρ, c, S, m⟩ := tB_ok h
    exact chain_ok ⟨B, ρ, c, S, m⟩
end
end
end DL
end L2

set_option Elab.async false
set_option linter.all false
set_option maxRecDepth 100000
namespace L2
open PySem PySem.Spec PyProof.Rows
namespace DL
/-! ### argument lists -/
section
variable {X : Cx} {p : Par} {pos : Pos} {a b : Expr} {es : List Expr} {f g : FE} {fa : FA}
def aNil : FA := fun _ c => .ok [] c
def aCons (f : FE) (fa : FA) : FA := fun ρ c => (f ρ c).bind fun d c1 => (fa ρ c1).bind fun ss c2 => .ok (.dt d :: ss) c2
def fCe (i : Nat) : FA := fun ρ c => match ρ[i]? with
  | some .ce => .ok [.ce] c
  | _ => .no
def aCel (i : Nat) (fa : FA) : FA := fun ρ c => (fCe i ρ c).bind fun _ c1 => (fa ρ c1).bind fun ss c2 => .ok (.ce :: ss) c2
theorem da_nil : PA X [] (dA p aNil) := pa_nil.imp fun σ H Q ⟨B, ρ, c, S, m⟩ => m [] B H S (Same.refl _) .nil
theorem da_cons (ha : PE X a (dE p f)) (hr : PA X es (dA p fa)) (hs : starEach (a :: es) X.env = (false, eval a X.env) :: starEach es X.env := by rfl) : PA X (a :: es) (dA p (aCons f fa)) :=
  (pa_cons ha hr hs).imp fun σ H Q ⟨B, ρ, c, S, m⟩ => by
    refine ⟨B, ρ, c, S, m.bE fun d c1 v B1 H1 S1 r1 s1 m1 => ⟨B1, ρ, c1, S1, m1.bA fun ss c2 vs B2 H2 S2 a2 s2 m2 => ?_⟩⟩
    exact m2 (v :: vs) B2 H2 S2 (Same.refl _) (.cons (r1.mono s2) a2)
/-- the cell handed on -/
theorem da_cel (i : Nat) (ha : PE X a (tVar i)) (hr : PA X es (dA p fa)) (hs : starEach (a :: es) X.env = (false, eval a X.env) :: starEach es X.env := by rfl) : PA X (a :: es) (dA p (aCel i fa)) :=
  (pa_cons ha hr hs).imp fun σ H Q ⟨B, ρ, c, S, m⟩ => by
    unfold aCel fCe at m
    split at m
    · rename_i e
      obtain ⟨o, e1, a', e2, e3⟩ := S.slot i _ e
      subst e3
      refine ⟨_, e1, B, ρ, c, S, PostA.bA m fun ss c2 vs B2 H2 S2 a2 s2 m2 => ?_⟩
      exact m2 (_ :: vs) B2 H2 S2 (Same.refl _) (.cons ⟨a', e2, rfl⟩ a2)
    · exact m.elim

/-! ### displays -/
/-- the data of an argument list -/
def dts : List Sl → Option (List PyData)
  | [] => some []
  | .dt d :: ss => (dts ss).map (d :: ·)
  | _ :: _ => none
theorem dts_rp {K : PySem.W.Frag} {C : Option Addr} {B : Hp} {vs : List V} {ss : List Sl} {ds : List PyData} (h : ArA K C B vs ss) (e : dts ss = some ds) : RpA K B vs ds := by
  induction h generalizing ds with
  | nil => cases e; exact .nil
  | @cons v vs s ss h t ih =>
    cases s with
    | dt d =>
      unfold dts at e
      cases q : dts ss with
      | none => rw [q] at e; cases e
      | some es => rw [q] at e; cases e; exact .cons h (ih q)
    | un => cases e
    | ow _ => cases e
    | ce => cases e
    | xn _ => cases e
    | sc _ => cases e
def lineOk (n : Nat) : Bool := decide (n ≤ 16777216)
theorem lineOk_le {n : Nat} (h : lineOk n = true) : n ≤ sizeLine := by rw [sizeLine_eq]; exact of_decide_eq_true h
def mkTup (ss : List Sl) : Option PyData := match dts ss with
  | some ds => if lineOk ds.length then some (.tuple ds) else none
  | none => none
def mkLst (ss : List Sl) : Option PyData := match dts ss with
  | some ds => if lineOk ds.length then some (.list ds) else none
  | none => none
def fDis (mk : List Sl → Option PyData) (fa : FA) : FE := fun ρ c => (fa ρ c).bind fun ss c1 => ofO (mk ss) c1
theorem de_tup {k : Nat} (ha : PA X es (dA p fa)) : PE X (.Tuple es k pos) (dE p (fDis mkTup fa)) :=
  (pe_tup ha).imp fun σ H Q ⟨B, ρ, c, S, m⟩ => by
    refine ⟨B, ρ, c, S, m.bA fun ss c1 vs B1 H1 S1 a1 s1 m1 => ?_⟩
    obtain ⟨d, e, q⟩ := ofO_ok m1
    unfold mkTup at e
    split at e
    · rename_i ds e2
      split at e
      · rename_i hz
        cases e
        have r := dts_rp a1 e2
        refine ⟨by rw [r.len]; exact lineOk_le hz, fun g ng => ?_⟩
        have G := Gw.new S1.sub (.tup vs) ng
        exact q _ _ _ (S1.grow G) G.b (.tup (SqT.of upd_same) (r.mono G.b))
      · cases e
    · cases e
theorem de_lst (ha : PA X es (dA p fa)) : PE X (.List es pos) (dE p (fDis mkLst fa)) :=
  (pe_lst ha).imp fun σ H Q ⟨B, ρ, c, S, m⟩ => by
    refine ⟨B, ρ, c, S, m.bA fun ss c1 vs B1 H1 S1 a1 s1 m1 => ?_⟩
    obtain ⟨d, e, q⟩ := ofO_ok m1
    unfold mkLst at e
    split at e
    · rename_i ds e2
      split at e
      · rename_i hz
        cases e
        have r := dts_rp a1 e2
        refine ⟨by rw [r.len]; exact lineOk_le hz, fun g ng => ?_⟩
        have G := Gw.new S1.sub (.lst vs) ng
        exact q _ _ _ (S1.grow G) G.b (.lst upd_same (r.mono G.b))
      · cases e
    · cases e

/-! ### built-ins -/
def fBi (cf : List PyData → Option PyData) (fa : FA) : FE := fun ρ c => (fa ρ c).bind fun ss c1 => ofO ((dts ss).bind cf) c1
theorem bi_ok {cf : List PyData → Option PyData} {σ : St} {H : Hp} {Q : VK} (m0 : dE p (fBi cf fa) σ H Q) : tCB (vCl p.K cf) (dA p fa) σ H Q := by
  obtain ⟨B, ρ, c, S, m⟩ := m0
  refine ⟨B, ρ, c, S, m.bA fun ss c1 vs B1 H1 S1 a1 s1 m1 => ?_⟩
  obtain ⟨d, e, q⟩ := ofO_ok m1
  cases e2 : dts ss with
  | none => rw [e2] at e; cases e
  | some ds =>
    rw [e2] at e
    exact ⟨B1, ds, d, S1.sub, dts_rp a1 e2, e, fun v B' H' G r => q v B' H' (S1.grow G) G.b r⟩
variable {x : Str} {pp : Pos} {id T : String} {cf : List PyData → Option PyData}
theorem de_bi (hc : CallR X (.builtin id) (vCl p.K cf)) (hg : Gl X x) (hm : X.mg x = none) (hv : bootBuiltins x = some (.builtin id)) (ha : PA X (a :: es) (dA p fa)) (hn : x ≠ "__name__" := by decide) (hdb : (x == ("__debug__" : Str)) = false := by decide)
    (he : starEach (a :: es) X.env = (false, eval a X.env) :: starEach es X.env := by rfl) (hpl : (backTo pos (starEach es X.env)).any (·.1) = false := by rfl) : PE X (.Call (.Name x pp) (a :: es) [] pos) (dE p (fBi cf fa)) :=
  (pe_callB hc hg hm hv ha hn hdb he hpl).imp fun _ _ _ h => bi_ok h
theorem de_ty (hc : CallR X (.type T) (vCl p.K cf)) (hg : Gl X x) (hm : X.mg x = none) (hv : bootBuiltins x = some (.type T)) (ha : PA X (a :: es) (dA p fa)) (hn : x ≠ "__name__" := by decide) (hdb : (x == ("__debug__" : Str)) = false := by decide)
    (he : starEach (a :: es) X.env = (false, eval a X.env) :: starEach es X.env := by rfl) (hpl : (backTo pos (starEach es X.env)).any (·.1) = false := by rfl) : PE X (.Call (.Name x pp) (a :: es) [] pos) (dE p (fBi cf fa)) :=
  (pe_callTy hc hg hm hv ha hn hdb he hpl).imp fun _ _ _ h => bi_ok h
/-- len -/
def cLen : List PyData → Option PyData
  | [.str z] => if z.length ≤ sizeLine then some (.int z.length) else none
  | [.list xs] => some (.int xs.length)
  | [.tuple xs] => some (.int xs.length)
  | _ => none
theorem vcl_len : CallR X (.builtin "len") (vCl X.K cLen) := by
  intro pins s σ H vs us Q I r ⟨B, ds, d, sb, rs, e, q⟩
  refine call_len pins s σ H vs us Q I r ?_
  unfold cLen at e
  split at e
  · rename_i z
    split at e
    · rename_i hz
      cases e
      cases rs with
      | cons h t =>
        cases t
        cases h
        exact ⟨_, z.length, rfl, ⟨hz, rfl⟩, q _ B H (Gw.refl sb) (.int _)⟩
    · cases e
  · cases e
    cases rs with
    | cons h t =>
      cases t
      cases h with
      | lst h1 a1 =>
        refine ⟨_, _, rfl, .inl ⟨_, SqL.of (sb _ _ h1), rfl⟩, ?_⟩
        rw [a1.len]
        exact q _ B H (Gw.refl sb) (.int _)
  · cases e
    cases rs with
    | cons h t =>
      cases t
      cases h with
      | tup h1 a1 =>
        refine ⟨_, _, rfl, .inr ⟨_, Same.seqT sb h1, rfl⟩, ?_⟩
        rw [a1.len]
        exact q _ B H (Gw.refl sb) (.int _)
  · cases e
def cAbs : List PyData → Option PyData
  | [.int i] => some (.int (if i < 0 then -i else i))
  | _ => none
theorem vcl_abs : CallR X (.builtin "abs") (vCl X.K cAbs) := by
  intro pins s σ H vs us Q I r ⟨B, ds, d, sb, rs, e, q⟩
  unfold cAbs at e
  split at e
  · rename_i i
    cases e
    cases rs with
    | cons h t =>
      cases t
      cases h
      exact call_abs pins s σ H _ us Q I r ⟨i, rfl, q _ B H (Gw.refl sb) (.int _)⟩
  · cases e
def cInt : List PyData → Option PyData
  | [.int i] => some (.int i)
  | [.bool k] => some (.int (if k then 1 else 0))
  | [.str z] => if z.length ≤ 640 then (PySem.intText? z).map .int else none
  | _ => none
theorem vcl_int : CallR X (.type "int") (vCl X.K cInt) := by
  intro pins s σ H vs us Q I r ⟨B, ds, d, sb, rs, e, q⟩
  unfold cInt at e
  split at e
  · rename_i i
    cases e
    cases rs with
    | cons h t =>
      cases t
      cases h
      exact call_int1 pins s σ H _ us Q I r (.inl ⟨i, rfl, q _ B H (Gw.refl sb) (.int _)⟩)
  · rename_i i
    cases e
    cases rs with
    | cons h t =>
      cases t
      cases h
      exact call_int1 pins s σ H _ us Q I r (.inr ⟨i, rfl, q _ B H (Gw.refl sb) (.int _)⟩)
  · rename_i z
    split at e
    · rename_i hz
      cases e2 : PySem.intText? z with
      | none => rw [e2] at e; cases e
      | some n =>
        rw [e2] at e
        cases e
        cases rs with
        | cons h t =>
          cases t
          cases h
          exact call_int_str pins s σ H _ us Q I r ⟨z, n, rfl, e2, hz, q _ B H (Gw.refl sb) (.int _)⟩
    · cases e
  · cases e
def cStr : List PyData → Option PyData
  | [.int i] => if i.natAbs.log2 < 1920 then some (.str (toString i)) else none
  | _ => none
theorem vcl_str : CallR X (.type "str") (vCl X.K cStr) := by
  intro pins s σ H vs us Q I r ⟨B, ds, d, sb, rs, e, q⟩
  unfold cStr at e
  split at e
  · rename_i i
    split at e
    · rename_i hz
      cases e
      cases rs with
      | cons h t =>
        cases t
        cases h
        exact call_str_int pins s σ H _ us Q I r ⟨i, rfl, hz, q _ B H (Gw.refl sb) (.str _)⟩
    · cases e
  · cases e
def cTuple : List PyData → Option PyData
  | [.list xs] => some (.tuple xs)
  | [.tuple xs] => some (.tuple xs)
  | _ => none
theorem vcl_tuple : CallR X (.type "tuple") (vCl X.K cTuple) := by
  intro pins s σ H vs us Q I r ⟨B, ds, d, sb, rs, e, q⟩
  unfold cTuple at e
  split at e
  · cases e
    cases rs with
    | cons h t =>
      cases t
      cases h with
      | lst h1 a1 =>
        refine call_tuple_of pins s σ H _ us Q I r ⟨_, _, rfl, .inl ⟨SqL.of (sb _ _ h1), fun g ng => ?_⟩⟩
        exact q _ _ _ (Gw.new sb _ ng) (.tup (SqT.of upd_same) (a1.mono (Gw.new sb _ ng).b))
  · cases e
    cases rs with
    | cons h t =>
      cases t
      cases h with
      | tup h1 a1 => exact call_tuple_of pins s σ H _ us Q I r ⟨_, _, rfl, .inr ⟨Same.seqT sb h1, q _ B H (Gw.refl sb) (.tup h1 a1)⟩⟩
  · cases e
def cList : List PyData → Option PyData
  | [.list xs] => some (.list xs)
  | [.tuple xs] => some (.list xs)
  | _ => none
theorem vcl_list : CallR X (.type "list") (vCl X.K cList) := by
  intro pins s σ H vs us Q I r ⟨B, ds, d, sb, rs, e, q⟩
  unfold cList at e
  split at e
  · cases e
    cases rs with
    | cons h t =>
      cases t
      cases h with
      | lst h1 a1 =>
        refine call_list_of pins s σ H _ us Q I r ⟨_, _, rfl, .inl (SqL.of (sb _ _ h1)), fun g ng => ?_⟩
        exact q _ _ _ (Gw.new sb _ ng) (.lst upd_same (a1.mono (Gw.new sb _ ng).b))
  · cases e
    cases rs with
    | cons h t =>
      cases t
      cases h with
      | tup h1 a1 =>
        refine call_list_of pins s σ H _ us Q I r ⟨_, _, rfl, .inr (Same.seqT sb h1), fun g ng => ?_⟩
        exact q _ _ _ (Gw.new sb _ ng) (.lst upd_same (a1.mono (Gw.new sb _ ng).b))
  · cases e
def cMax : List PyData → Option PyData
  | [.int i, .int j] => some (.int (if j > i then j else i))
  | _ => none
def cMin : List PyData → Option PyData
  | [.int i, .int j] => some (.int (if j < i then j else i))
  | _ => none
theorem vcl_max (hc : X.calm = true) : CallR X (.builtin "max") (vCl X.K cMax) := by
  intro pins s σ H vs us Q I r ⟨B, ds, d, sb, rs, e, q⟩
  unfold cMax at e
  split at e
  · rename_i i j
    cases e
    cases rs with
    | cons h t =>
      cases t with
      | cons h2 t2 =>
        cases t2
        cases h
        cases h2
        exact call_max2 hc pins s σ H _ us Q I r ⟨i, j, rfl, q _ B H (Gw.refl sb) (.int _)⟩
  · cases e
theorem vcl_min (hc : X.calm = true) : CallR X (.builtin "min") (vCl X.K cMin) := by
  intro pins s σ H vs us Q I r ⟨B, ds, d, sb, rs, e, q⟩
  unfold cMin at e
  split at e
  · rename_i i j
    cases e
    cases rs with
    | cons h t =>
      cases t with
      | cons h2 t2 =>
        cases t2
        cases h
        cases h2
        exact call_min2 hc pins s σ H _ us Q I r ⟨i, j, rfl, q _ B H (Gw.refl sb) (.int _)⟩
  · cases e
/-- all, any of a list of bools -/
def bools : List PyData → Option (List Bool)
  | [] => some []
  | .bool b :: r => (bools r).map (b :: ·)
  | _ :: _ => none
theorem bools_rp {K : PySem.W.Frag} {B : Hp} {vs : List V} {ds : List PyData} {bs : List Bool} (h : RpA K B vs ds) (e : bools ds = some bs) : vs = bs.map V.bl := by
  induction ds generalizing vs bs with
  | nil => cases h; cases e; rfl
  | cons d ds ih =>
    cases h with
    | cons h t =>
      cases h with
      | bl b =>
        unfold bools at e
        cases q : bools ds with
        | none => rw [q] at e; cases e
        | some cs => rw [q] at e; cases e; rw [ih t q]; rfl
      | _ => cases e
def cAll : List PyData → Option PyData
  | [.list xs] => (bools xs).map fun bs => .bool (bs.all fun x => x)
  | _ => none
def cAny : List PyData → Option PyData
  | [.list xs] => (bools xs).map fun bs => .bool (bs.any fun x => x)
  | _ => none
theorem vcl_all (hc : X.calm = true) : CallR X (.builtin "all") (vCl X.K cAll) := by
  intro pins s σ H vs us Q I r ⟨B, ds, d, sb, rs, e, q⟩
  unfold cAll at e
  split at e
  · rename_i xs
    cases e2 : bools xs with
    | none => rw [e2] at e; cases e
    | some bs =>
      rw [e2] at e
      cases e
      cases rs with
      | cons h t =>
        cases t
        cases h with
        | lst h1 a1 =>
          have ev := bools_rp a1 e2
          subst ev
          exact cr_all hc pins s σ H _ us Q I r ⟨_, bs, rfl, SqL.of (sb _ _ h1), q _ B H (Gw.refl sb) (.bl _)⟩
  · cases e
theorem vcl_any (hc : X.calm = true) : CallR X (.builtin "any") (vCl X.K cAny) := by
  intro pins s σ H vs us Q I r ⟨B, ds, d, sb, rs, e, q⟩
  unfold cAny at e
  split at e
  · rename_i xs
    cases e2 : bools xs with
    | none => rw [e2] at e; cases e
    | some bs =>
      rw [e2] at e
      cases e
      cases rs with
      | cons h t =>
        cases t
        cases h with
        | lst h1 a1 =>
          have ev := bools_rp a1 e2
          subst ev
          exact cr_any hc pins s σ H _ us Q I r ⟨_, bs, rfl, SqL.of (sb _ _ h1), q _ B H (Gw.refl sb) (.bl _)⟩
  · cases e
/-- repr -/
def showOk (d : PyData) : Bool := d.showable && !d.hasDict && decide (d.depth ≤ 64) && lineOk d.shown.length
def cRepr : List PyData → Option PyData
  | [d] => if showOk d then some (.str d.shown) else none
  | _ => none
theorem vcl_repr (hg : X.A.guards = some []) (hu : X.A.units + 66 < cLine) : CallR X (.builtin "repr") (vCl X.K cRepr) := by
  intro pins s σ H vs us Q I r ⟨B, ds, d, sb, rs, e, q⟩
  unfold cRepr at e
  split at e
  · rename_i d0
    split at e
    · rename_i hf
      cases e
      simp only [showOk, Bool.and_eq_true, Bool.not_eq_true', decide_eq_true_eq] at hf
      obtain ⟨⟨⟨hs, hd⟩, hp⟩, hl⟩ := hf
      have hl' := lineOk_le hl
      cases rs with
      | cons h t =>
        cases t
        obtain ⟨u, rfl, ru⟩ := vals1 r
        obtain ⟨as, rd⟩ := Dp.reads I d0 _ u (Dp.of sb h) ru
        cases h with
        | non =>
          cases ru
          exact PySem.P.repr_of_none ⟨.str _, H, I.tok _, ⟨_, rfl⟩, q _ B H (Gw.refl sb) (.str _)⟩
        | bl b =>
          cases ru
          exact PySem.P.repr_of_bool ⟨.str _, H, I.tok _, ⟨_, rfl⟩, q _ B H (Gw.refl sb) (.str _)⟩
        | int i =>
          obtain ⟨t, rfl⟩ := ru
          have hi : i.natAbs.log2 < 1920 := by simpa [PyData.showable] using hs
          exact PySem.P.repr_of_int hi ⟨.str _, H, I.tok _, ⟨_, rfl⟩, q _ B H (Gw.refl sb) (.str _)⟩
        | str x =>
          obtain ⟨t, rfl⟩ := ru
          exact PySem.P.repr_of_str ⟨.str _, H, I.tok _, ⟨_, rfl⟩, q _ B H (Gw.refl sb) (.str _)⟩ hl'
        | lst h1 a1 =>
          cases ru
          exact repr_of_reads' rd hs (PyData.noDict_hsm hd) hg (by omega) (fun _ _ e => e) (fun h' u tk hk => ⟨.str _, H, I.kept hk, ⟨_, rfl⟩, q _ B H (Gw.refl sb) (.str _)⟩) hl'
        | tup h1 a1 =>
          cases ru
          exact repr_of_reads' rd hs (PyData.noDict_hsm hd) hg (by omega) (fun _ _ e => e) (fun h' u tk hk => ⟨.str _, H, I.kept hk, ⟨_, rfl⟩, q _ B H (Gw.refl sb) (.str _)⟩) hl'
    · cases e
  · cases e
/-- isinstance with a built-in type -/
def tyD : PyData → String
  | .none => "NoneType"
  | .bool _ => "bool"
  | .int _ => "int"
  | .str _ => "str"
  | .list _ => "list"
  | .tuple _ => "tuple"
  | .dict _ => "dict"
def isS (a T : String) : Bool := a == T || (T == "int" && a == "bool")
def isT (T : String) (d : PyData) : Bool := isS (tyD d) T
def tyNs : List String := ["NoneType", "bool", "int", "str", "list", "tuple", "dict"]
theorem tyD_in (d : PyData) : tyD d ∈ tyNs := by cases d <;> simp [tyD, tyNs]
theorem isi_tab : ∀ a ∈ tyNs, ∀ T ∈ ["int", "bool", "str", "tuple", "list"], kitB a T = some (isS a T) := by decide +kernel
def dIsi (T : String) (d : PyData) : Option PyData := some (.bool (isT T d))
theorem ty_rp {K : PySem.W.Frag} {B H : Hp} (sb : Same B H) {v : V} {d : PyData} (r : Rp K B v d) : TyX K H v (.type (tyD d)) := by
  cases r with
  | non => exact .base .non
  | bl b => exact .base (.bl b)
  | int i => exact .base (.int i)
  | str x => exact .base (.str x)
  | lst h t => exact .base (.lst (sb _ _ h))
  | tup h t =>
    rcases Same.seqT sb h with (h | ⟨o, h⟩) | ⟨o, its, n, h, hc, _⟩
    · exact .base (.tup h)
    · exact .fTuple h
    · exact .kTuple h hc
theorem isi_table (K : PySem.W.Frag) (T : String) (hT : T ∈ ["int", "bool", "str", "tuple", "list"]) (d : PyData) : PySem.W.kitOne K (.type (tyD d)) (.type T) = some (isT T d) := kit_ty (isi_tab _ (tyD_in d) T hT)
theorem de_isi {p2 : Pos} {x : Str} {T : String} (hT : T ∈ ["int", "bool", "str", "tuple", "list"]) (hk : p.K = X.K) (hg : Gl X "isinstance") (hm : X.mg "isinstance" = none) (hg2 : Gl X x) (hm2 : X.mg x = none) (hv2 : bootBuiltins x = some (.type T))
    (ha : PE X a (dE p f)) (hn2 : x ≠ "__name__" := by decide) (hd2 : (x == ("__debug__" : Str)) = false := by decide)
    (he : starEach (a :: [.Name x p2]) X.env = (false, eval a X.env) :: starEach [.Name x p2] X.env := by rfl) (he2 : starEach ((.Name x p2) :: []) X.env = (false, eval (.Name x p2) X.env) :: starEach [] X.env := by rfl)
    (hpl : (backTo pos (starEach [.Name x p2] X.env)).any (·.1) = false := by rfl) : PE X (.Call (.Name "isinstance" pp) [a, .Name x p2] [] pos) (dE p (f1 (dIsi T) f)) :=
  (pe_callB call_isi hg hm (by decide +kernel) (pa_cons ha (pa_cons (pe_bltn (v := .ty T) hg2 hm2 hv2 rfl hn2 hd2) pa_nil he2) he) (by decide) (by decide) he hpl).imp fun σ H Q ⟨B, ρ, c, S, m⟩ => by
    refine ⟨B, ρ, c, S, m.bE fun d c1 v B1 H1 S1 r1 s1 m1 => ?_⟩
    obtain ⟨d', e', q⟩ := ofO_ok m1
    cases e'
    exact ⟨v, .ty T, .type (tyD d), .type T, isT T d, rfl, .ty T, hk ▸ ty_rp S1.sub r1, isi_table _ T hT d, q _ B1 H1 S1 (Same.refl _) (.bl _)⟩
end
end DL
end L2

set_option Elab.async false
set_option linter.all false
set_option maxRecDepth 100000
namespace L2
open PySem PySem.Spec PyProof.Rows
namespace DL
/-! ### a def's contract -/
structure FnG (P : Program) (w : World) (K : PySem.W.Frag) (mg : Str → Option Value) (base : Heap) (k : Nat) (f : Addr) (fd : FuncData) (ps : List Str) (sp : Sp) : Prop where
  len : ∀ vs H Q E, sp vs H Q E → vs.length = ps.length
  run : ∀ (A : Around) (outer : List Env) (s : Shared) (H : Hp) (args : Args) (us : List Value) (vs : List V) (Q : VK) (E : XK), Room k A → A.guards = some [] →
    Env0 P w K mg base A outer s H → BindsTo s fd args (ps.zip us) → Vals vs us → sp vs H Q E → codeAny (model P w) A (.call (.ref f) args) (CR (L2.CX P w) outer P w H s Q E) s
theorem FnG.up {P : Program} {w : World} {K : PySem.W.Frag} {mg : Str → Option Value} {base : Heap} {j k : Nat} {f : Addr} {fd : FuncData} {ps : List Str} {sp : Sp} (F : FnG P w K mg base j f fd ps sp) (h : j ≤ k) : FnG P w K mg base k f fd ps sp :=
  ⟨F.len, fun A outer s H args us vs Q E hr hg => F.run A outer s H args us vs Q E (hr.mono h) hg⟩
theorem FnG.weak {P : Program} {w : World} {K : PySem.W.Frag} {mg : Str → Option Value} {base : Heap} {k : Nat} {f : Addr} {fd : FuncData} {ps : List Str} {sp sp' : Sp} (F : FnG P w K mg base k f fd ps sp)
    (h : ∀ vs H Q E, sp' vs H Q E → sp vs H Q E) : FnG P w K mg base k f fd ps sp' :=
  ⟨fun vs H Q E q => F.len vs H Q E (h _ _ _ _ q), fun A outer s H args us vs Q E hr hg he hb hv hs => F.run A outer s H args us vs Q E hr hg he hb hv (h _ _ _ _ hs)⟩
theorem FnG.of {P : Program} {w : World} {K : PySem.W.Frag} {mg : Str → Option Value} {base : Heap} {k : Nat} {f : Addr} {fd : FuncData} {ps : List Str} {sp : Sp} (F : FnOk P w K mg base (L2.CX P w) k f fd ps sp) : FnG P w K mg base k f fd ps sp :=
  ⟨F.len, fun A outer s H args us vs Q E hr _ => F.run A outer s H args us vs Q E hr⟩
abbrev MF := List Sl → Int → R PyData
def CelOk (C : Option Addr) (H : Hp) (c : Int) : Prop := ∀ a, C = some a → H a = some (.lst [.int c])
def PostF (K : PySem.W.Frag) (C : Option Addr) (xt : List XC) (B H : Hp) (Q : VK) (E : XK) : R PyData → Prop
  | .ok d c' => ∀ v B' H', Gr C B H B' H' → CelOk C H' c' → Rp K B' v d → Q v H'
  | .ex x c' => ∀ B' H' cls d, Gr C B H B' H' → CelOk C H' c' → ExOk K xt B' H' cls d x → E cls d H'
  | .no => False
def spD (K : PySem.W.Frag) (C : Option Addr) (xt : List XC) (n : Nat) (m : MF) : Sp := fun vs H Q E => vs.length = n ∧ ∃ B ss c, Same B H ∧ CelOk C H c ∧ (∀ a, C = some a → B a = none) ∧ ArA K C B vs ss ∧ PostF K C xt B H Q E (m ss c)
/-- what stands about a name's def -/
structure Kn (P : Program) (w : World) (K : PySem.W.Frag) (mg : Str → Option Value) (base : Heap) (C : Option Addr) (xt : List XC) (x : Str) (k n : Nat) (m : MF) : Prop where
  ex : ∃ f fd ps, ps.length = n ∧ mg x = some (.ref f) ∧ PySem.W.keepIn K (.ref f) = true ∧ Binds K fd ps [] ∧ FnG P w K mg base k f fd ps (spD K C xt n m)
theorem Kn.up {P : Program} {w : World} {K : PySem.W.Frag} {mg : Str → Option Value} {base : Heap} {C : Option Addr} {xt : List XC} {x : Str} {j k n : Nat} {m : MF} (h : Kn P w K mg base C xt x j n m) (hk : j ≤ k) : Kn P w K mg base C xt x k n m := by
  obtain ⟨f, fd, ps, h1, h2, h3, h4, h5⟩ := h.ex
  exact ⟨f, fd, ps, h1, h2, h3, h4, h5.up hk⟩
/-- another meaning that agrees where it is said -/
theorem Kn.to {P : Program} {w : World} {K : PySem.W.Frag} {mg : Str → Option Value} {base : Heap} {C : Option Addr} {xt : List XC} {x : Str} {k n : Nat} {m m' : MF} (h : Kn P w K mg base C xt x k n m) (hm : ∀ ss c, m' ss c ≠ .no → m ss c = m' ss c) : Kn P w K mg base C xt x k n m' := by
  obtain ⟨f, fd, ps, h1, h2, h3, h4, h5⟩ := h.ex
  refine ⟨f, fd, ps, h1, h2, h3, h4, h5.weak fun vs H Q E q => ?_⟩
  obtain ⟨l, B, ss, c, q1, q2, q3, q4, q5⟩ := q
  refine ⟨l, B, ss, c, q1, q2, q3, q4, ?_⟩
  rw [hm ss c fun z => by rw [z] at q5; exact q5]
  exact q5

/-! ### where a derivation stands -/
structure Cz (X : Cx) (p : Par) (k : Nat) : Prop where
  hk : p.K = X.K
  room : Room k X.A
  gd : X.A.guards = some []
  calm : X.calm = true
  nd : X.N.Nodup
  tk : Takes X p.W
  po : PassesOwn (model X.prog X.w) X.A X.env X.xe
theorem Cz.hu {X : Cx} {p : Par} {k : Nat} (Z : Cz X p k) : X.A.units + 66 < cLine := by have := Z.room.un; omega
theorem Cz.h64 {X : Cx} {p : Par} {k : Nat} (Z : Cz X p k) : X.A.units + 64 < cLine := by have := Z.room.un; omega
theorem Cz.h65 {X : Cx} {p : Par} {k : Nat} (Z : Cz X p k) : X.A.units + 65 < cLine := by have := Z.room.un; omega

/-! ### calls -/
section
variable {X : Cx} {p : Par} {k kz n : Nat} {m : MF} {pos pp : Pos} {x : Str} {a : Expr} {es : List Expr} {fa : FA}
theorem run_G {pins : List (Addr × Obj)} {σ : St} {H : Hp} {s : Shared} {Q : VK} {us : List Value} {vs : List V} {f : Addr} {fd : FuncData} {ps : List Str} {sp : Sp} (F : FnG X.prog X.w X.K X.mg X.base k f fd ps sp) (hr : Room k X.A) (hgd : X.A.guards = some [])
    (hb : Binds X.K fd ps []) (tk : Takes X p.W) (I : Inv X pins σ H s) (r : Vals vs us) (h : sp vs H Q (fun cls d H' => p.W cls d σ H')) : wpAny (model X.prog X.w) X.A (call (.ref f) us) (EP X pins σ Q) X.xe s := by
  have hl : us.length = ps.length := r.length.symm.trans (F.len _ _ _ _ h)
  have hbb := hb s us I.kIn (by rw [List.append_nil]; exact hl)
  rw [List.append_nil] at hbb
  have go := F.run X.A X.stack s H ⟨us, []⟩ us vs Q _ hr hgd I.env0 hbb r h
  refine wpAny_call (codeAny_mono go fun res s' hq => ?_)
  match res, hq with
  | .error e, hq => exact tk e s' (XE.of_call I (fun _ _ _ z => z) hq)
  | .ok (.ret u), hq => exact I.after hq
  | .ok .next, hq => exact hq.elim
  | .ok .brk, hq => exact hq.elim
  | .ok .cont, hq => exact hq.elim
def fCall (m : MF) (fa : FA) : FE := fun ρ c => (fa ρ c).bind fun ss c1 => m ss c1
/-- from the caller's state to the callee's promise and back -/
theorem spD_of {σ : St} {ρ : En} {B1 H1 : Hp} {c1 : Int} {Q : VK} {ss : List Sl} {vs : List V} (S1 : Sta p B1 H1 σ ρ c1) (a1 : ArA p.K p.C B1 vs ss) (hn : ss.length = n) (m1 : PostE p σ ρ B1 Q (m ss c1)) :
    spD p.K p.C p.xt n m vs H1 Q (fun cls d H' => p.W cls d σ H') := by
  refine ⟨a1.len.trans hn, B1, ss, c1, S1.sub, fun a e => (S1.cel a e).1, fun a e => (S1.cel a e).2.1, a1, ?_⟩
  cases q : m ss c1 with
  | ok d c' =>
    rw [q] at m1
    exact fun v B' H' g hc r => m1 v B' H' (S1.call g hc) g.b r
  | ex x c' =>
    rw [q] at m1
    exact fun B' H' cls d g hc e => m1 B' H' cls d (S1.call g hc) g.b e
  | no => rw [q] at m1; exact m1
/-- how many arguments a list has -/
def FALen (fa : FA) (n : Nat) : Prop := ∀ ρ c ss c', fa ρ c = .ok ss c' → ss.length = n
theorem falen_nil : FALen aNil 0 := fun ρ c ss c' e => by unfold aNil at e; cases e; rfl
theorem falen_cons {f : FE} {fa : FA} {n : Nat} (h : FALen fa n) : FALen (aCons f fa) (n + 1) := fun ρ c ss c' e => by
  unfold aCons at e
  cases q : f ρ c with
  | ok d c1 =>
    rw [q] at e
    simp only [R.bind] at e
    cases q2 : fa ρ c1 with
    | ok ss2 c2 => rw [q2] at e; cases e; simp [h _ _ _ _ q2]
    | ex x c2 => rw [q2] at e; cases e
    | no => rw [q2] at e; cases e
  | ex x c1 => rw [q] at e; cases e
  | no => rw [q] at e; cases e
theorem falen_cel {i : Nat} {fa : FA} {n : Nat} (h : FALen fa n) : FALen (aCel i fa) (n + 1) := fun ρ c ss c' e => by
  unfold aCel at e
  cases q : fCe i ρ c with
  | ok d c1 =>
    rw [q] at e
    simp only [R.bind] at e
    cases q2 : fa ρ c1 with
    | ok ss2 c2 => rw [q2] at e; cases e; simp [h _ _ _ _ q2]
    | ex x c2 => rw [q2] at e; cases e
    | no => rw [q2] at e; cases e
  | ex x c1 => rw [q] at e; cases e
  | no => rw [q] at e; cases e
theorem de_call (Z : Cz X p kz) (G : Kn X.prog X.w X.K X.mg X.base p.C p.xt x k n m) (hkz : k ≤ kz) (hg : Gl X x) (hl : FALen fa n) (ha : PA X (a :: es) (dA p fa)) (hdb : (x == ("__debug__" : Str)) = false := by decide)
    (he : starEach (a :: es) X.env = (false, eval a X.env) :: starEach es X.env := by rfl) (hpl : (backTo pos (starEach es X.env)).any (·.1) = false := by rfl) : PE X (.Call (.Name x pp) (a :: es) [] pos) (dE p (fCall m fa)) := by
  obtain ⟨f, fd, ps, hn, hm, hkp, hb, F⟩ := G.ex
  refine ⟨fun pins s σ H Q I h => ?_⟩
  obtain ⟨B, ρ, c, S, m0⟩ := h
  refine wpAny_Call_Name_kw (ld_glob I hg hm ?_ hdb)
  have hh : dA p fa σ H fun vs H1 => spD p.K p.C p.xt n m vs H1 Q fun cls d H' => p.W cls d σ H' := by
    refine ⟨B, ρ, c, S, ?_⟩
    unfold fCall at m0
    cases q : fa ρ c with
    | ok ss c1 =>
      rw [q] at m0
      exact fun vs B1 H1 S1 s1 a1 => spD_of S1 a1 (hl _ _ _ _ q) (PostE.from m0 s1)
    | ex x c1 => rw [q] at m0; exact m0
    | no => rw [q] at m0; exact m0
  refine PySem.W.callWith_K (h₀ := X.base) I.ok.mod.kin hkp (thn (ha.run pos pins s σ H _ I hh) fun us s1 hz => ?_) he hpl
  obtain ⟨vs, H1, I1, r, q⟩ := hz
  refine ⟨I1.kIn, ?_⟩
  rw [Z.hk] at q
  exact run_G F (Z.room.mono hkz) Z.gd hb Z.tk I1 r q
theorem de_call0 (Z : Cz X p kz) (G : Kn X.prog X.w X.K X.mg X.base p.C p.xt x k 0 m) (hkz : k ≤ kz) (hg : Gl X x) (hdb : (x == ("__debug__" : Str)) = false := by decide) : PE X (.Call (.Name x pp) [] [] pos) (dE p (fCall m aNil)) := by
  obtain ⟨f, fd, ps, hn, hm, hkp, hb, F⟩ := G.ex
  refine ⟨fun pins s σ H Q I h => ?_⟩
  obtain ⟨B, ρ, c, S, m0⟩ := h
  refine wpAny_Call_Name_kw (ld_glob I hg hm ?_ hdb)
  have q : spD p.K p.C p.xt 0 m [] H Q fun cls d H' => p.W cls d σ H' := spD_of S .nil rfl m0
  rw [Z.hk] at q
  exact PySem.W.callWith_K0 I.kIn hkp (run_G (us := []) F (Z.room.mono hkz) Z.gd hb Z.tk I .nil q)
end

/-! ### statements -/
inductive Fl where
  | nx (ρ : En)
  | rt (d : PyData)
  | bk (ρ : En)
  | ct (ρ : En)
abbrev FS := En → Int → R Fl
def PostS (p : Par) (B : Hp) (D : Ends) : R Fl → Prop
  | .ok (.nx ρ') c' => ∀ σ' B' H', Sta p B' H' σ' ρ' c' → Same B B' → D.nx σ' H'
  | .ok (.rt d) c' => ∀ v σ' ρ' B' H', Sta p B' H' σ' ρ' c' → Same B B' → Rp p.K B' v d → D.rt v H'
  | .ok (.bk ρ') c' => ∀ σ' B' H', Sta p B' H' σ' ρ' c' → Same B B' → D.bk σ' H'
  | .ok (.ct ρ') c' => ∀ σ' B' H', Sta p B' H' σ' ρ' c' → Same B B' → D.ct σ' H'
  | .ex x c' => ∀ σ' ρ' B' H' cls d, Sta p B' H' σ' ρ' c' → Same B B' → ExOk p.K p.xt B' H' cls d x → p.W cls d σ' H'
  | .no => False
def dS (p : Par) (g : FS) : TS := fun D σ H => ∃ B ρ c, Sta p B H σ ρ c ∧ PostS p B D (g ρ c)
theorem PostS.from {p : Par} {B B' : Hp} {D : Ends} {r : R Fl} (h : PostS p B D r) (s : Same B B') : PostS p B' D r := by
  match r, h with
  | .ok (.nx ρ') c', h => exact fun σ' B2 H2 S z => h σ' B2 H2 S (s.trans z)
  | .ok (.rt d) c', h => exact fun v σ' ρ' B2 H2 S z => h v σ' ρ' B2 H2 S (s.trans z)
  | .ok (.bk ρ') c', h => exact fun σ' B2 H2 S z => h σ' B2 H2 S (s.trans z)
  | .ok (.ct ρ') c', h => exact fun σ' B2 H2 S z => h σ' B2 H2 S (s.trans z)
  | .ex x c', h => exact fun σ' ρ' B2 H2 cls d S z => h σ' ρ' B2 H2 cls d S (s.trans z)
  | .no, h => exact h
section
variable {p : Par} {σ : St} {ρ : En} {B : Hp} {D : Ends}
theorem PostS.bE {Q' : VK} {r : R PyData} {k : PyData → Int → R Fl} (h : PostS p B D (r.bind k))
    (hq : ∀ d c' v B' H', Sta p B' H' σ ρ c' → Rp p.K B' v d → Same B B' → PostS p B' D (k d c') → Q' v H') : PostE p σ ρ B Q' r := by
  cases r with
  | ok d c => exact fun v B2 H2 S z r => hq d c v B2 H2 S r z (PostS.from h z)
  | ex x c => exact fun B2 H2 cls d S z e => h σ ρ B2 H2 cls d S z e
  | no => exact h
theorem PostS.bT {Q' : Bool → Hp → Prop} {r : R Bool} {k : Bool → Int → R Fl} (h : PostS p B D (r.bind k))
    (hq : ∀ b c' B' H', Sta p B' H' σ ρ c' → Same B B' → PostS p B' D (k b c') → Q' b H') : PostT p σ ρ B Q' r := by
  cases r with
  | ok d c => exact fun B2 H2 S z => hq d c B2 H2 S z (PostS.from h z)
  | ex x c => exact fun B2 H2 cls d S z e => h σ ρ B2 H2 cls d S z e
  | no => exact h
theorem PostS.bA {Q' : List V → Hp → Prop} {r : R (List Sl)} {k : List Sl → Int → R Fl} (h : PostS p B D (r.bind k))
    (hq : ∀ ss c' vs B' H', Sta p B' H' σ ρ c' → ArA p.K p.C B' vs ss → Same B B' → PostS p B' D (k ss c') → Q' vs H') : PostA p σ ρ B Q' r := by
  cases r with
  | ok d c => exact fun v B2 H2 S z r => hq d c v B2 H2 S r z (PostS.from h z)
  | ex x c => exact fun B2 H2 cls d S z e => h σ ρ B2 H2 cls d S z e
  | no => exact h
end
def sNx : FS := fun ρ c => .ok (.nx ρ) c
def sSeq (g h : FS) : FS := fun ρ c => (g ρ c).bind fun fl c1 => match fl with
  | .nx ρ1 => h ρ1 c1
  | fl => .ok fl c1
section
variable {X : Cx} {p : Par} {pos : Pos} {st : Stmt} {rest : List Stmt} {g h : FS} {a c : Expr} {f : FE} {ft : FT} {b1 b2 : List Stmt} {gs : FS}
theorem dss_nil : PSs X [] (dS p sNx) := pss_nil.imp fun D σ H ⟨B, ρ, c, S, m⟩ => m σ B H S (Same.refl _)
theorem seq_ok {D : Ends} {σ : St} {H : Hp} (m0 : dS p (sSeq g h) D σ H) : tSeq (dS p g) (dS p h) D σ H := by
  obtain ⟨B, ρ, c, S, m⟩ := m0
  refine ⟨B, ρ, c, S, ?_⟩
  unfold sSeq at m
  generalize hr : g ρ c = r at m
  match r, m with
  | .ok (.nx ρ') c', m => exact fun σ' B2 H2 S2 z => ⟨B2, ρ', c', S2, PostS.from m z⟩
  | .ok (.rt d) c', m => exact m
  | .ok (.bk ρ') c', m => exact m
  | .ok (.ct ρ') c', m => exact m
  | .ex x c', m => exact m
  | .no, m => exact m
theorem dss_cons (h1 : PS X st (dS p g)) (h2 : PSs X rest (dS p h)) : PSs X (st :: rest) (dS p (sSeq g h)) := (pss_cons h1 h2).imp fun _ _ _ m => seq_ok m
theorem dss_one (h1 : PS X st (dS p g)) : PSs X [st] (dS p g) := pss_one h1
theorem ds_pass : PS X (.Pass pos) (dS p sNx) := ps_pass.imp fun D σ H ⟨B, ρ, c, S, m⟩ => m σ B H S (Same.refl _)
def sBk : FS := fun ρ c => .ok (.bk ρ) c
def sCt : FS := fun ρ c => .ok (.ct ρ) c
theorem ds_break : PS X (.Break pos) (dS p sBk) := ps_break.imp fun D σ H ⟨B, ρ, c, S, m⟩ => m σ B H S (Same.refl _)
theorem ds_continue : PS X (.Continue pos) (dS p sCt) := ps_continue.imp fun D σ H ⟨B, ρ, c, S, m⟩ => m σ B H S (Same.refl _)
def sRet (f : FE) : FS := fun ρ c => (f ρ c).bind fun d c1 => .ok (.rt d) c1
theorem ds_ret (ha : PE X a (dE p f)) : PS X (.Return (some a) pos) (dS p (sRet f)) := (ps_ret ha).imp fun D σ H ⟨B, ρ, c, S, m⟩ =>
  ⟨B, ρ, c, S, PostS.bE m fun d c1 v B1 H1 S1 r1 s1 m1 => m1 v σ ρ B1 H1 S1 (Same.refl _) r1⟩
def sRetN : FS := fun ρ c => .ok (.rt .none) c
theorem ds_retN : PS X (.Return none pos) (dS p sRetN) := ps_retN.imp fun D σ H ⟨B, ρ, c, S, m⟩ => m .non σ ρ B H S (Same.refl _) .non
def sIf (t : FT) (g h : FS) : FS := fun ρ c => (t ρ c).bind fun k c1 => if k = true then g ρ c1 else h ρ c1
theorem ds_if (hc : PT X c (dT p ft)) (h1 : PSs X b1 (dS p g)) (h2 : PSs X b2 (dS p h)) : PS X (.If c b1 b2 pos) (dS p (sIf ft g h)) :=
  (ps_if hc h1 h2).imp fun D σ H ⟨B, ρ, c, S, m⟩ => by
    refine ⟨B, ρ, c, S, PostS.bT m fun k c1 B1 H1 S1 s1 m1 => ?_⟩
    cases k with
    | true => exact ⟨B1, ρ, c1, S1, m1⟩
    | false => exact ⟨B1, ρ, c1, S1, m1⟩
def sDrop (f : FE) : FS := fun ρ c => (f ρ c).bind fun _ c1 => .ok (.nx ρ) c1
theorem ds_expr (ha : PE X a (dE p f)) (hs : swapsWith a none pos.line X.env = pure false := by rfl) : PS X (.Expr a pos) (dS p (sDrop f)) := (ps_expr ha hs).imp fun D σ H ⟨B, ρ, c, S, m⟩ =>
  ⟨B, ρ, c, S, PostS.bE m fun d c1 v B1 H1 S1 r1 s1 m1 => m1 σ B1 H1 S1 (Same.refl _)⟩

/-! ### a slot is set -/
theorem Sta.set {B H : Hp} {σ : St} {ρ : En} {c : Int} (S : Sta p B H σ ρ c) {i : Nat} {v : V} {d : PyData} (r : Rp p.K B v d) : Sta p B H (σ.set i (some v)) (ρ.set i (.dt d)) c where
  sub := S.sub
  ext := S.ext
  new := S.new
  keep := S.keep
  cel := S.cel
  len := by rw [List.length_set, List.length_set]; exact S.len
  ln := by rw [List.length_set]; exact S.ln
  slot := fun j s e => by
    by_cases hj : i = j
    · subst hj
      have hi : i < ρ.length := by
        have := (List.getElem?_eq_some_iff.mp e).1
        rwa [List.length_set] at this
      rw [List.getElem?_set_self hi] at e
      cases e
      exact ⟨some v, List.getElem?_set_self (by rw [S.len]; exact hi), v, rfl, r⟩
    · rw [List.getElem?_set_ne hj] at e ⊢
      exact S.slot j s e
  apart := fun j l a ds es e1 e2 e3 e4 => by
    have hj : i ≠ j := fun z => by
      subst z
      have hi := (List.getElem?_eq_some_iff.mp e1).1
      rw [List.length_set] at hi
      rw [List.getElem?_set_self hi] at e1
      cases e1
    have hl : i ≠ l := fun z => by
      subst z
      have hi := (List.getElem?_eq_some_iff.mp e2).1
      rw [List.length_set] at hi
      rw [List.getElem?_set_self hi] at e2
      cases e2
    rw [List.getElem?_set_ne hj] at e1 e3
    rw [List.getElem?_set_ne hl] at e2 e4
    exact S.apart j l a ds es e1 e2 e3 e4
/-! ### targets -/
theorem wipe_get (σ : St) (j : Nat) : ∀ vs : List Nat, (wipe σ vs)[j]? = if j ∈ vs ∧ j < σ.length then some none else σ[j]?
  | [] => by simp [wipe]
  | v :: vs => by
    unfold wipe
    by_cases hv : v = j
    · subst hv
      by_cases hl : v < σ.length
      · rw [List.getElem?_set_self (by rw [wipe_length]; exact hl), if_pos ⟨List.mem_cons_self, hl⟩]
      · rw [List.getElem?_eq_none (by rw [List.length_set, wipe_length]; omega), if_neg (fun z => hl z.2), List.getElem?_eq_none (by omega)]
    · rw [List.getElem?_set_ne hv, wipe_get σ j vs]
      have e : (j ∈ v :: vs ∧ j < σ.length) ↔ (j ∈ vs ∧ j < σ.length) := by
        simp only [List.mem_cons]
        constructor
        · rintro ⟨h1 | h1, h2⟩
          · exact absurd h1.symm hv
          · exact ⟨h1, h2⟩
        · exact fun ⟨h1, h2⟩ => ⟨.inr h1, h2⟩
      by_cases h : j ∈ vs ∧ j < σ.length
      · rw [if_pos h, if_pos (e.mpr h)]
      · rw [if_neg h, if_neg fun z => h (e.mp z)]
theorem wipe_set {σ : St} {i : Nat} {x : Option V} {vs : List Nat} (h : i ∈ vs) : wipe (σ.set i x) vs = wipe σ vs := by
  apply List.ext_getElem?
  intro j
  rw [wipe_get, wipe_get, List.length_set]
  by_cases hj : j ∈ vs ∧ j < σ.length
  · rw [if_pos hj, if_pos hj]
  · rw [if_neg hj, if_neg hj]
    by_cases hi : i = j
    · subst hi
      have hl : ¬ i < σ.length := fun z => hj ⟨h, z⟩
      rw [List.getElem?_eq_none (by rw [List.length_set]; omega), List.getElem?_eq_none (by omega)]
    · rw [List.getElem?_set_ne hi]
abbrev FG := PyData → En → Option En
abbrev FGs := List PyData → En → Option En
def PostG (p : Par) (B : Hp) (c : Int) (σ : St) (vs : List Nat) (Q : St → Hp → Prop) : Option En → Prop
  | some ρ' => ∀ σ' B' H', Sta p B' H' σ' ρ' c → Same B B' → wipe σ' vs = wipe σ vs → Q σ' H'
  | none => False
def dG (p : Par) (vs : List Nat) (t : FG) : TG := fun v σ H Q => ∃ B ρ c d, Sta p B H σ ρ c ∧ Rp p.K B v d ∧ PostG p B c σ vs Q (t d ρ)
def dGs (p : Par) (vs : List Nat) (t : FGs) : TGs := fun us σ H Q => ∃ B ρ c ds, Sta p B H σ ρ c ∧ RpA p.K B us ds ∧ PostG p B c σ vs Q (t ds ρ)
theorem _root_.L2.PG.imp {X : Cx} {e : Expr} {t t' : TG} (h : PG X e t) (hi : ∀ v σ H Q, t' v σ H Q → t v σ H Q) : PG X e t' := ⟨fun pins s σ H v u Q I r q => h.run pins s σ H v u Q I r (hi v σ H Q q)⟩
theorem _root_.L2.PGs.imp {X : Cx} {e : List Expr} {t t' : TGs} (h : PGs X e t) (hi : ∀ v σ H Q, t' v σ H Q → t v σ H Q) : PGs X e t' := ⟨fun pins s σ H v u Q I r q => h.run pins s σ H v u Q I r (hi v σ H Q q)⟩
def tNm (i : Nat) : FG := fun d ρ => some (ρ.set i (.dt d))
theorem dg_nm {e : Expr} {vs : List Nat} (i : Nat) (h : PG X e (gName i)) (hv : i ∈ vs) : PG X e (dG p vs (tNm i)) := h.imp fun v σ H Q ⟨B, ρ, c, d, S, r, m⟩ => m _ B H (S.set r) (Same.refl _) (wipe_set hv)
def tsNil : FGs := fun ds ρ => match ds with
  | [] => some ρ
  | _ => none
def tsCons (t : FG) (ts : FGs) : FGs := fun ds ρ => match ds with
  | d :: ds => (t d ρ).bind (ts ds)
  | [] => none
theorem dgs_nil {vs : List Nat} : PGs X [] (dGs p vs tsNil) := pgs_nil.imp fun us σ H Q ⟨B, ρ, c, ds, S, r, m⟩ => by
  cases ds with
  | nil => cases r; exact ⟨rfl, m σ B H S (Same.refl _) rfl⟩
  | cons d ds => exact m.elim
theorem dgs_cons {e : Expr} {es : List Expr} {vs : List Nat} {t : FG} {ts : FGs} (h1 : PG X e (dG p vs t)) (h2 : PGs X es (dGs p vs ts)) (hs : (assignEach (e :: es) X.env).map (·.2) = assign e X.env :: (assignEach es X.env).map (·.2) := by rfl) :
    PGs X (e :: es) (dGs p vs (tsCons t ts)) := (pgs_cons h1 h2 hs).imp fun us σ H Q ⟨B, ρ, c, ds, S, r, m⟩ => by
  cases ds with
  | nil => exact m.elim
  | cons d ds =>
    cases r with
    | cons r rs =>
      refine ⟨_, _, rfl, B, ρ, c, d, S, r, ?_⟩
      unfold tsCons at m
      cases q : t d ρ with
      | none => simp only [q, Option.bind_none] at m; exact m.elim
      | some ρ1 =>
        simp only [q, Option.bind_some] at m
        refine fun σ1 B1 H1 S1 s1 w1 => ⟨B1, ρ1, c, ds, S1, rs.mono s1, ?_⟩
        cases q2 : ts ds ρ1 with
        | none => rw [q2] at m; exact m.elim
        | some ρ2 => rw [q2] at m; exact fun σ2 B2 H2 S2 s2 w2 => m σ2 B2 H2 S2 (s1.trans s2) (w2.trans w1)
def tTup (ts : FGs) : FG := fun d ρ => match d with
  | .tuple ds => ts ds ρ
  | _ => none
theorem dg_tup {es : List Expr} {k n : Nat} {vs : List Nat} {ts : FGs} (hc : X.calm = true) (hk : p.K = X.K) (hts : ∀ ds ρ, ts ds ρ ≠ none → ds.length = n) (h : PGs X es (dGs p vs ts)) (hn : (assignEach es X.env).length = n := by rfl) (hst : (assignEach es X.env).findIdx? (·.1) = none := by rfl) :
    PG X (.Tuple es k pos) (dG p vs (tTup ts)) := (pg_tup hc h hn hst).imp fun v σ H Q ⟨B, ρ, c, d, S, r, m⟩ => by
  unfold tTup at m
  split at m
  · rename_i ds
    cases r with
    | tup h1 a1 =>
      refine ⟨_, _, rfl, hk ▸ Same.seqT S.sub h1, ?_, B, ρ, c, ds, S, a1, m⟩
      rw [a1.len]
      exact hts ds ρ fun z => by rw [z] at m; exact m
  · exact m.elim
theorem ts_len0 {ds : List PyData} {ρ : En} (h : tsNil ds ρ ≠ none) : ds.length = 0 := by
  cases ds with
  | nil => rfl
  | cons d ds => exact absurd rfl h
theorem ts_len {t : FG} {ts : FGs} {n : Nat} (hn : ∀ ds ρ, ts ds ρ ≠ none → ds.length = n) {ds : List PyData} {ρ : En} (h : tsCons t ts ds ρ ≠ none) : ds.length = n + 1 := by
  cases ds with
  | nil => exact absurd rfl h
  | cons d ds =>
    unfold tsCons at h
    cases q : t d ρ with
    | none => simp only [q, Option.bind_none] at h; exact absurd rfl h
    | some ρ1 =>
      simp only [q, Option.bind_some] at h
      rw [List.length_cons, hn ds ρ1 h]
def sAsg (f : FE) (t : FG) : FS := fun ρ c => (f ρ c).bind fun d c1 => (ofO (t d ρ) c1).bind fun ρ1 c2 => .ok (.nx ρ1) c2
theorem ds_asg {tg : Expr} {vs : List Nat} {t : FG} (ha : PE X a (dE p f)) (hg : PG X tg (dG p vs t)) (hs : swapsWithSole [tg] a pos.line X.env = pure false := by rfl) (hw : swappedStores [tg] a X.env = pure none := by rfl)
    (h1 : (assignEach [tg] X.env).map (·.2) = [assign tg X.env] := by rfl) : PS X (.Assign [tg] a pos) (dS p (sAsg f t)) :=
  (ps_asg ha hg hs hw h1).imp fun D σ H ⟨B, ρ, c, S, m⟩ => by
    refine ⟨B, ρ, c, S, PostS.bE m fun d c1 v B1 H1 S1 r1 s1 m1 => ⟨B1, ρ, c1, d, S1, r1, ?_⟩⟩
    cases e : t d ρ with
    | none => rw [e] at m1; exact m1
    | some ρ1 => rw [e] at m1; exact fun σ2 B2 H2 S2 s2 _ => m1 σ2 B2 H2 S2 s2
def sSet (i : Nat) (f : FE) : FS := fun ρ c => (f ρ c).bind fun d c1 => .ok (.nx (ρ.set i (.dt d))) c1
theorem ds_set {i : Nat} {x : Str} {pos' : Pos} (hN : X.N.Nodup) (hi : X.N[i]? = some x) (hx : Loc X.env.scope x) (ha : PE X a (dE p f)) (hs : swapsWith a (some (.Name x pos')) pos.line X.env = pure false := by rfl) (hf : X.fn x = true ∨ X.env.scope.names.lookup x = some .local := by first | exact .inl rfl | exact .inr rfl | assumption) :
    PS X (.Assign [.Name x pos'] a pos) (dS p (sSet i f)) :=
  (ps_set (i := i) hN hi hx ha hs hf).imp fun D σ H ⟨B, ρ, c, S, m⟩ => ⟨B, ρ, c, S, PostS.bE m fun d c1 v B1 H1 S1 r1 s1 m1 => m1 _ B1 H1 (S1.set r1) (Same.refl _)⟩
/-- a, b = e1, e2 -/
def sPar (i j : Nat) (f1 f2 : FE) : FS := fun ρ c => (f1 ρ c).bind fun d c1 => (f2 ρ c1).bind fun e c2 => .ok (.nx ((ρ.set i (.dt d)).set j (.dt e))) c2
theorem ds_par {i j : Nat} {x y : Str} {b : Expr} {f2 : FE} {px py pt : Pos} {kt k2 : Nat} {pt2 : Pos} (hc : X.calm = true) (hN : X.N.Nodup) (hi : X.N[i]? = some x) (hj : X.N[j]? = some y) (hij : i ≠ j)
    (hx : X.env.scope.names.lookup x = some .local) (hy : X.env.scope.names.lookup y = some .local) (ha : PE X a (dE p f)) (hb : PE X b (dE p f2))
    (hw : swappedStores [.Tuple [.Name x px, .Name y py] kt pt] (.Tuple [a, b] k2 pt2) X.env = pure (some [x, y]))
    (hs : swapsWithSole [.Tuple [.Name x px, .Name y py] kt pt] (.Tuple [a, b] k2 pt2) pos.line X.env = pure false := by rfl)
    (h1 : starEach (a :: [b]) X.env = (false, eval a X.env) :: starEach [b] X.env := by rfl) (h2 : starEach (b :: []) X.env = (false, eval b X.env) :: starEach [] X.env := by rfl) :
    PS X (.Assign [.Tuple [.Name x px, .Name y py] kt pt] (.Tuple [a, b] k2 pt2) pos) (dS p (sPar i j f f2)) :=
  (ps_par (i := i) (j := j) hc hN hi hj hij hx hy (pa_cons ha (pa_cons hb pa_nil h2) h1) hw hs).imp fun D σ H ⟨B, ρ, c, S, m⟩ =>
    ⟨B, ρ, c, S, PostS.bE m fun d c1 v B1 H1 S1 r1 s1 m1 => ⟨B1, ρ, c1, S1, PostS.bE m1 fun e c2 u B2 H2 S2 r2 s2 m2 => ⟨v, u, rfl, m2 _ B2 H2 ((S2.set (r1.mono s2)).set r2) (Same.refl _)⟩⟩⟩
end
end DL
end L2

set_option Elab.async false
set_option linter.all false
set_option maxRecDepth 100000
namespace L2
open PySem PySem.Spec PyProof.Rows
namespace DL
/-! ### fresh lists -/
abbrev FL := En → Int → R (List PyData)
/-- no slot holds the list at a as its own -/
def Unheld (σ : St) (ρ : En) (a : Addr) : Prop := ∀ (i : Nat) (es : List PyData), ρ[i]? = some (.ow es) → σ[i]? ≠ some (some (.ref a))
def PostL (p : Par) (σ : St) (ρ : En) (B : Hp) (Q : VK) : R (List PyData) → Prop
  | .ok ds c' => ∀ a xs B' H', Sta p B' H' σ ρ c' → Same B B' → H' a = some (.lst xs) → B' a = none → p.H0 a = none → Unheld σ ρ a → RpA p.K B' xs ds → Q (.ref a) H'
  | .ex x c' => ∀ B' H' cls d, Sta p B' H' σ ρ c' → Same B B' → ExOk p.K p.xt B' H' cls d x → p.W cls d σ H'
  | .no => False
def dF (p : Par) (f : FL) : TE := fun σ H Q => ∃ B ρ c, Sta p B H σ ρ c ∧ PostL p σ ρ B Q (f ρ c)
theorem PostL.from {p : Par} {σ : St} {ρ : En} {B B' : Hp} {Q : VK} {r : R (List PyData)} (h : PostL p σ ρ B Q r) (s : Same B B') : PostL p σ ρ B' Q r := by
  cases r with
  | ok d c => exact fun a xs B2 H2 S z => h a xs B2 H2 S (s.trans z)
  | ex x c => exact fun B2 H2 cls d S z e => h B2 H2 cls d S (s.trans z) e
  | no => exact h
theorem PostL.bE {p : Par} {σ : St} {ρ : En} {B : Hp} {Q Q' : VK} {r : R PyData} {k : PyData → Int → R (List PyData)} (h : PostL p σ ρ B Q (r.bind k))
    (hq : ∀ d c' v B' H', Sta p B' H' σ ρ c' → Rp p.K B' v d → Same B B' → PostL p σ ρ B' Q (k d c') → Q' v H') : PostE p σ ρ B Q' r := by
  cases r with
  | ok d c => exact fun v B2 H2 S z r => hq d c v B2 H2 S r z (PostL.from h z)
  | ex x c => exact h
  | no => exact h
theorem PostL.bA {p : Par} {σ : St} {ρ : En} {B : Hp} {Q : VK} {Q' : List V → Hp → Prop} {r : R (List Sl)} {k : List Sl → Int → R (List PyData)} (h : PostL p σ ρ B Q (r.bind k))
    (hq : ∀ d c' v B' H', Sta p B' H' σ ρ c' → ArA p.K p.C B' v d → Same B B' → PostL p σ ρ B' Q (k d c') → Q' v H') : PostA p σ ρ B Q' r := by
  cases r with
  | ok d c => exact fun v B2 H2 S z r => hq d c v B2 H2 S r z (PostL.from h z)
  | ex x c => exact h
  | no => exact h
theorem PostE.bL {p : Par} {σ : St} {ρ : En} {B : Hp} {Q Q' : VK} {r : R (List PyData)} {k : List PyData → Int → R PyData} (h : PostE p σ ρ B Q (r.bind k))
    (hq : ∀ ds c' a xs B' H', Sta p B' H' σ ρ c' → Same B B' → H' a = some (.lst xs) → B' a = none → p.H0 a = none → Unheld σ ρ a → RpA p.K B' xs ds → PostE p σ ρ B' Q (k ds c') → Q' (.ref a) H') : PostL p σ ρ B Q' r := by
  cases r with
  | ok d c => exact fun a xs B2 H2 S z e1 e2 e3 u r => hq d c a xs B2 H2 S z e1 e2 e3 u r (PostE.from h z)
  | ex x c => exact h
  | no => exact h
theorem PostS.bL {p : Par} {σ : St} {ρ : En} {B : Hp} {D : Ends} {Q' : VK} {r : R (List PyData)} {k : List PyData → Int → R Fl} (h : PostS p B D (r.bind k))
    (hq : ∀ ds c' a xs B' H', Sta p B' H' σ ρ c' → Same B B' → H' a = some (.lst xs) → B' a = none → p.H0 a = none → Unheld σ ρ a → RpA p.K B' xs ds → PostS p B' D (k ds c') → Q' (.ref a) H') : PostL p σ ρ B Q' r := by
  cases r with
  | ok d c => exact fun a xs B2 H2 S z e1 e2 e3 u r => hq d c a xs B2 H2 S z e1 e2 e3 u r (PostS.from h z)
  | ex x c => exact fun B2 H2 cls d S z e => h σ ρ B2 H2 cls d S z e
  | no => exact h
section
variable {p : Par} {B H : Hp} {σ : St} {ρ : En} {c : Int} {a : Addr}
theorem unheld_new (S : Sta p B H σ ρ c) (n : H a = none) : Unheld σ ρ a := fun i es e1 e2 => by
  obtain ⟨o, h1, a', xs, h2, h3, _⟩ := S.slot i _ e1
  rw [h1] at e2
  cases e2
  cases h2
  rw [n] at h3
  cases h3
/-- an unfrozen list of nobody's is frozen -/
theorem Sta.freeze1 (S : Sta p B H σ ρ c) {o : HO} (h : H a = some o) (hb : B a = none) (h0 : p.H0 a = none) (u : Unheld σ ρ a) : Sta p (upd B a o) H σ ρ c ∧ Same B (upd B a o) := by
  have s1 : Same B (upd B a o) := fun b x e => by rw [upd_ne (ne_of_none e hb)]; exact e
  refine ⟨⟨fun b x e => ?_, S.ext.trans s1, fun b q => ?_, S.keep, fun b e => ?_, S.len, S.ln, fun i s e => ?_, S.apart⟩, s1⟩
  · by_cases hx : b = a
    · subst hx; rw [upd_same] at e; cases e; exact h
    · rw [upd_ne hx] at e; exact S.sub b x e
  · by_cases hx : b = a
    · subst hx; exact .inr h0
    · rw [upd_ne hx] at q; exact S.new b q
  · obtain ⟨q1, q2, q3⟩ := S.cel b e
    refine ⟨q1, ?_, q3⟩
    rw [upd_ne (fun z => by subst z; exact q3 h0)]
    exact q2
  · obtain ⟨x, e1, k⟩ := S.slot i s e
    refine ⟨x, e1, ?_⟩
    cases s with
    | un => trivial
    | dt d => obtain ⟨v, k1, k2⟩ := k; exact ⟨v, k1, k2.mono s1⟩
    | ow ds =>
      obtain ⟨a', xs, k1, k2, k3, k4, k5⟩ := k
      subst k1
      refine ⟨a', xs, rfl, k2, ?_, k4, k5.mono s1⟩
      rw [upd_ne (fun z => by subst z; exact u i ds e e1)]
      exact k3
    | ce => exact k
    | sc ns => obtain ⟨b, k1, k2⟩ := k; exact ⟨b, k1, s1.seq k2⟩
    | xn x =>
      obtain ⟨a', dd, D, ns, vs, k1, k2, k3, k4, k5, k6, k7⟩ := k
      exact ⟨a', dd, D, ns, vs, k1, k2, k3, k4, k5, k6.mono s1, k7⟩
/-- an object that is nobody's is written -/
theorem Sta.poke (S : Sta p B H σ ρ c) {o : HO} (hb : B a = none) (h0 : p.H0 a = none) (u : Unheld σ ρ a) : Sta p B (upd H a o) σ ρ c where
  sub := fun b x e => by rw [upd_ne (ne_of_none e hb)]; exact S.sub b x e
  ext := S.ext
  new := S.new
  keep := fun b x e q => by rw [upd_ne (ne_of_none e h0)]; exact S.keep b x e q
  cel := fun b e => by
    obtain ⟨q1, q2, q3⟩ := S.cel b e
    exact ⟨by rw [upd_ne (fun z => by subst z; exact q3 h0)]; exact q1, q2, q3⟩
  len := S.len
  ln := S.ln
  slot := fun i s e => by
    obtain ⟨x, e1, k⟩ := S.slot i s e
    refine ⟨x, e1, ?_⟩
    cases s with
    | un => trivial
    | dt d => exact k
    | ow ds =>
      obtain ⟨a', xs, k1, k2, k3⟩ := k
      subst k1
      refine ⟨a', xs, rfl, ?_, k3⟩
      rw [upd_ne (fun z => by subst z; exact u i ds e e1)]
      exact k2
    | ce => exact k
    | sc ns => exact k
    | xn x =>
      obtain ⟨a', dd, D, ns, vs, k1, k2, k3, k4, k5, k6⟩ := k
      exact ⟨a', dd, D, ns, vs, k1, k2, k3, by rw [upd_ne (fun z => by subst z; exact k5 h0)]; exact k4, k5, k6⟩
  apart := S.apart
/-- an own list is set into a slot -/
theorem Sta.setOw (S : Sta p B H σ ρ c) {i : Nat} {xs : List V} {ds : List PyData} (h : H a = some (.lst xs)) (hb : B a = none) (h0 : p.H0 a = none) (u : Unheld σ ρ a) (r : RpA p.K B xs ds) :
    Sta p B H (σ.set i (some (.ref a))) (ρ.set i (.ow ds)) c where
  sub := S.sub
  ext := S.ext
  new := S.new
  keep := S.keep
  cel := S.cel
  len := by rw [List.length_set, List.length_set]; exact S.len
  ln := by rw [List.length_set]; exact S.ln
  slot := fun j s e => by
    by_cases hj : i = j
    · subst hj
      have hi : i < ρ.length := by
        have := (List.getElem?_eq_some_iff.mp e).1
        rwa [List.length_set] at this
      rw [List.getElem?_set_self hi] at e
      cases e
      exact ⟨some (.ref a), List.getElem?_set_self (by rw [S.len]; exact hi), a, xs, rfl, h, hb, h0, r⟩
    · rw [List.getElem?_set_ne hj] at e ⊢
      exact S.slot j s e
  apart := fun j l b es es' e1 e2 e3 e4 => by
    by_cases hj : i = j
    · by_cases hl : i = l
      · exact hj.symm.trans hl
      · subst hj
        have hi := (List.getElem?_eq_some_iff.mp e3).1
        rw [List.length_set] at hi
        rw [List.getElem?_set_self hi] at e3
        cases e3
        rw [List.getElem?_set_ne hl] at e2 e4
        exact absurd e4 (u l es' e2)
    · by_cases hl : i = l
      · subst hl
        have hi := (List.getElem?_eq_some_iff.mp e4).1
        rw [List.length_set] at hi
        rw [List.getElem?_set_self hi] at e4
        cases e4
        rw [List.getElem?_set_ne hj] at e1 e3
        exact absurd e3 (u j es e1)
      · rw [List.getElem?_set_ne hj] at e1 e3
        rw [List.getElem?_set_ne hl] at e2 e4
        exact S.apart j l b es es' e1 e2 e3 e4
/-- an own list is changed -/
theorem Sta.mut (S : Sta p B H σ ρ c) {i : Nat} {ds es : List PyData} {ys : List V} (hi : ρ[i]? = some (.ow ds)) (ha : σ[i]? = some (some (.ref a))) (r : RpA p.K B ys es) : Sta p B (upd H a (.lst ys)) σ (ρ.set i (.ow es)) c := by
  obtain ⟨o, e1, a', xs, k1, k2, k3, k4, k5⟩ := S.slot i _ hi
  rw [ha] at e1
  cases e1
  cases k1
  refine ⟨fun b x e => ?_, S.ext, S.new, fun b x e q => ?_, fun b e => ?_, ?_, S.ln, fun j s e => ?_, fun j l b ds1 ds2 f1 f2 f3 f4 => ?_⟩
  · rw [upd_ne (ne_of_none e k3)]; exact S.sub b x e
  · rw [upd_ne (ne_of_none e k4)]; exact S.keep b x e q
  · obtain ⟨q1, q2, q3⟩ := S.cel b e
    exact ⟨by rw [upd_ne (fun z => by subst z; exact q3 k4)]; exact q1, q2, q3⟩
  · rw [List.length_set]; exact S.len
  · by_cases hj : i = j
    · subst hj
      have hl : i < ρ.length := (List.getElem?_eq_some_iff.mp hi).1
      rw [List.getElem?_set_self hl] at e
      cases e
      exact ⟨_, ha, a, ys, rfl, upd_same, k3, k4, r⟩
    · rw [List.getElem?_set_ne hj] at e
      obtain ⟨x, e1, k⟩ := S.slot j s e
      refine ⟨x, e1, ?_⟩
      cases s with
      | un => trivial
      | dt d => exact k
      | ow ds' =>
        obtain ⟨b, zs, l1, l2, l3⟩ := k
        subst l1
        refine ⟨b, zs, rfl, ?_, l3⟩
        rw [upd_ne (fun z => by subst z; exact hj (S.apart i j _ _ _ hi e ha e1))]
        exact l2
      | ce => exact k
      | sc ns => exact k
      | xn x =>
        obtain ⟨b, dd, D, ns, vs, l1, l2, l3, l4, l5, l6⟩ := k
        exact ⟨b, dd, D, ns, vs, l1, l2, l3, by rw [upd_ne (fun z => by subst z; exact l5 k4)]; exact l4, l5, l6⟩
  · have back : ∀ {m : Nat} {gs : List PyData}, (ρ.set i (.ow es))[m]? = some (.ow gs) → ∃ gs', ρ[m]? = some (.ow gs') := fun {m gs} g => by
      by_cases hm : i = m
      · subst hm; exact ⟨_, hi⟩
      · rw [List.getElem?_set_ne hm] at g; exact ⟨_, g⟩
    obtain ⟨g1, f1⟩ := back f1
    obtain ⟨g2, f2⟩ := back f2
    exact S.apart j l b g1 g2 f1 f2 f3 f4
end
def fFz (f : FL) : FE := fun ρ c => (f ρ c).bind fun ds c1 => .ok (.list ds) c1
section
variable {X : Cx} {p : Par} {pos pp cp : Pos} {k kz : Nat} {a b e : Expr} {es : List Expr} {f g : FE} {fl : FL} {fa : FA} {x : Str} {st : Stmt} {gs : FS}
/-- a fresh list, frozen -/
theorem de_fz (h : PE X e (dF p fl)) : PE X e (dE p (fFz fl)) := h.imp fun σ H Q ⟨B, ρ, c, S, m⟩ =>
  ⟨B, ρ, c, S, m.bL fun ds c1 a xs B1 H1 S1 s1 e1 e2 e3 u r m1 => by
    obtain ⟨S2, s2⟩ := S1.freeze1 e1 e2 e3 u
    exact m1 _ _ H1 S2 s2 (.lst upd_same (r.mono s2))⟩
def lLst (fa : FA) : FL := fun ρ c => (fa ρ c).bind fun ss c1 => match dts ss with
  | some ds => if lineOk ds.length then .ok ds c1 else .no
  | none => .no
/-- from «any new place» to a fresh list -/
theorem fresh_of {B H : Hp} {σ : St} {ρ : En} {c : Int} {Q : VK} {vs : List V} {ds : List PyData} (S : Sta p B H σ ρ c) (r : RpA p.K B vs ds) (m : PostL p σ ρ B Q (.ok ds c)) : ∀ g, H g = none → Q (.ref g) (upd H g (.lst vs)) := fun g ng =>
  m g vs B _ (S.grow (Gw.held S.sub _ ng)) (Same.refl _) upd_same (S.sub.free ng) (S.none0 ng) (unheld_new S ng) r
theorem df_lst (ha : PA X es (dA p fa)) : PE X (.List es pos) (dF p (lLst fa)) :=
  (pe_lst ha).imp fun σ H Q ⟨B, ρ, c, S, m⟩ => by
    refine ⟨B, ρ, c, S, PostL.bA m fun ss c1 vs B1 H1 S1 a1 s1 m1 => ?_⟩
    cases e2 : dts ss with
    | none => rw [e2] at m1; exact m1.elim
    | some ds =>
      rw [e2] at m1
      have r := dts_rp a1 e2
      simp only at m1
      split at m1
      · rename_i hz
        exact ⟨by rw [r.len]; exact lineOk_le hz, fresh_of S1 r m1⟩
      · exact m1.elim
/-- list(e) -/
def lOf (f : FE) : FL := fun ρ c => (f ρ c).bind fun d c1 => match d with
  | .list ds => .ok ds c1
  | .tuple ds => .ok ds c1
  | _ => .no
theorem df_list {pp : Pos} (hg : Gl X "list") (hm : X.mg "list" = none) (hk : p.K = X.K) (ha : PE X a (dE p f)) (he : starEach (a :: []) X.env = (false, eval a X.env) :: starEach [] X.env := by rfl) (hpl : (backTo pos (starEach [] X.env)).any (·.1) = false := by rfl) :
    PE X (.Call (.Name "list" pp) [a] [] pos) (dF p (lOf f)) :=
  (pe_callTy call_list_of hg hm (by decide +kernel) (pa_cons ha pa_nil he) (by decide) (by decide) he hpl).imp fun σ H Q ⟨B, ρ, c, S, m⟩ => by
    refine ⟨B, ρ, c, S, PostL.bE m fun d c1 v B1 H1 S1 r1 s1 m1 => ?_⟩
    split at m1
    · cases r1 with
      | lst h1 a1 => exact ⟨_, _, rfl, .inl (SqL.of (S1.sub _ _ h1)), fresh_of S1 a1 m1⟩
    · cases r1 with
      | tup h1 a1 => exact ⟨_, _, rfl, .inr (hk ▸ Same.seqT S1.sub h1), fresh_of S1 a1 m1⟩
    · exact m1.elim
/-- [..] * k -/
def lRep (fl : FL) (g : FE) : FL := fun ρ c => (fl ρ c).bind fun ds c1 => (g ρ c1).bind fun d c2 => match d with
  | .int k => if 0 ≤ k ∧ k ≤ 1000 ∧ ds.length ≤ 1000 then .ok (List.replicate k.toNat ds).flatten c2 else .no
  | _ => .no

/-! ### x = a fresh list; freezing; x.append(e); x[i] = e -/
def sOw (i : Nat) (fl : FL) : FS := fun ρ c => (fl ρ c).bind fun ds c1 => .ok (.nx (ρ.set i (.ow ds))) c1
theorem ds_ow {i : Nat} {pos' : Pos} (hN : X.N.Nodup) (hi : X.N[i]? = some x) (hx : Loc X.env.scope x) (ha : PE X a (dF p fl)) (hs : swapsWith a (some (.Name x pos')) pos.line X.env = pure false := by rfl) (hf : X.fn x = true ∨ X.env.scope.names.lookup x = some .local := by first | exact .inl rfl | exact .inr rfl | assumption) :
    PS X (.Assign [.Name x pos'] a pos) (dS p (sOw i fl)) :=
  (ps_set (i := i) hN hi hx ha hs hf).imp fun D σ H ⟨B, ρ, c, S, m⟩ => ⟨B, ρ, c, S, PostS.bL m fun ds c1 a xs B1 H1 S1 s1 e1 e2 e3 u r m1 => m1 _ B1 H1 (S1.setOw e1 e2 e3 u r) (Same.refl _)⟩
def fzE (i : Nat) (ρ : En) : En := match ρ[i]? with
  | some (.ow ds) => ρ.set i (.dt (.list ds))
  | _ => ρ
theorem Sta.fz {B H : Hp} {σ : St} {ρ : En} {c : Int} (S : Sta p B H σ ρ c) (i : Nat) : ∃ B', Sta p B' H σ (fzE i ρ) c ∧ Same B B' := by
  unfold fzE
  split
  · rename_i ds e
    obtain ⟨o, e1, a, xs, k1, k2, k3, k4, k5⟩ := S.slot i _ e
    subst k1
    -- the slot is emptied, then its list frozen, then the slot set
    have hi : i < ρ.length := (List.getElem?_eq_some_iff.mp e).1
    have S1 : Sta p B H σ (ρ.set i .un) c := by
      refine ⟨S.sub, S.ext, S.new, S.keep, S.cel, by rw [List.length_set]; exact S.len, S.ln, fun j s q => ?_, fun j l b d1 d2 q1 q2 q3 q4 => ?_⟩
      · by_cases hj : i = j
        · subst hj
          rw [List.getElem?_set_self hi] at q
          cases q
          exact ⟨_, e1, trivial⟩
        · rw [List.getElem?_set_ne hj] at q
          exact S.slot j s q
      · have hj : i ≠ j := fun z => by subst z; rw [List.getElem?_set_self hi] at q1; cases q1
        have hl : i ≠ l := fun z => by subst z; rw [List.getElem?_set_self hi] at q2; cases q2
        rw [List.getElem?_set_ne hj] at q1
        rw [List.getElem?_set_ne hl] at q2
        exact S.apart j l b d1 d2 q1 q2 q3 q4
    have u : Unheld σ (ρ.set i .un) a := fun j es q1 q2 => by
      have hj : i ≠ j := fun z => by subst z; rw [List.getElem?_set_self hi] at q1; cases q1
      rw [List.getElem?_set_ne hj] at q1
      exact hj (S.apart i j a _ _ e q1 e1 q2)
    obtain ⟨S2, s2⟩ := S1.freeze1 k2 k3 k4 u
    have S3 := S2.set (i := i) (v := .ref a) (d := .list ds) (.lst upd_same (k5.mono s2))
    rw [List.set_set] at S3
    have es : σ.set i (some (V.ref a)) = σ := by
      have hiσ : i < σ.length := (List.getElem?_eq_some_iff.mp e1).1
      apply List.ext_getElem?
      intro j
      by_cases hj : i = j
      · subst hj; rw [List.getElem?_set_self hiσ, e1]
      · rw [List.getElem?_set_ne hj]
    rw [es] at S3
    exact ⟨_, S3, s2⟩
  · exact ⟨B, S, Same.refl _⟩
def sFz (i : Nat) (g : FS) : FS := fun ρ c => g (fzE i ρ) c
theorem ds_fz (i : Nat) (h : PS X st (dS p gs)) : PS X st (dS p (sFz i gs)) := h.imp fun D σ H ⟨B, ρ, c, S, m⟩ => by
  obtain ⟨B', S', s'⟩ := S.fz i
  exact ⟨B', _, c, S', PostS.from m s'⟩
/-- x.append(e) -/
def sApp (i : Nat) (f : FE) : FS := fun ρ c => match ρ[i]? with
  | some (.ow ds) => (f ρ c).bind fun d c1 => if lineOk (ds.length + 1) then .ok (.nx (ρ.set i (.ow (ds ++ [d])))) c1 else .no
  | _ => .no
theorem ds_app (i : Nat) {pn ap : Pos} (hn : PE X (.Name x pn) (tVar i)) (ha : PE X a (dE p f)) (hb : attributeBase (.Name x pn) "append" X.env (eval (.Name x pn) X.env) = eval (.Name x pn) X.env := by rfl)
    (hfew : ((backTo cp (starEach (a :: []) X.env)).all (fun x => !x.1) && (backToKw cp (keywordEach [] X.env)).all (fun x => x.1.isSome)
      && decide ((a :: []).length + ([] : List Keyword).length + (if ([] : List Keyword).isEmpty then 0 else 1) < 30)) = true := by rfl)
    (hline : (ap.endLine == cp.line) = true := by rfl) (hs : starEach (a :: []) X.env = (false, eval a X.env) :: starEach [] X.env := by rfl) (hplain : (backTo cp (starEach [] X.env)).any (·.1) = false := by rfl)
    (hsw : swapsWith (.Call (.Attribute (.Name x pn) "append" ap) [a] [] cp) none pos.line X.env = pure false := by rfl) :
    PS X (.Expr (.Call (.Attribute (.Name x pn) "append" ap) [a] [] cp) pos) (dS p (sApp i f)) :=
  (ps_expr (pe_bm PySem.F.plainAttrs_list PySem.F.slot_list_append PySem.F.type_list_append mt_append hn (pa_cons ha pa_nil hs) hb hfew hline hs hplain) hsw).imp fun D σ H ⟨B, ρ, c, S, m⟩ => by
    unfold sApp at m
    split at m
    · rename_i ds e
      obtain ⟨o, e1, a', xs, k1, k2, k3, k4, k5⟩ := S.slot i _ e
      subst k1
      refine ⟨_, e1, .inl ⟨rfl, xs, SqL.of k2⟩, B, ρ, c, S, PostS.bE m fun d c1 v B1 H1 S1 r1 s1 m1 => ?_⟩
      obtain ⟨o2, e2, a2, xs2, l1, l2, l3, l4, l5⟩ := S1.slot i _ e
      rw [e1] at e2
      cases e2
      cases l1
      split at m1
      · rename_i hz
        have hz' := lineOk_le hz
        refine ⟨a', xs2, v, rfl, rfl, l2, by rw [l5.len]; omega, ?_⟩
        exact m1 σ B1 _ (S1.mut e e1 (l5.app (.cons r1 .nil))) (Same.refl _)
      · exact m1.elim
    · exact m.elim
/-- x[i] = e, x an own list -/
def sSetIx (i : Nat) (fi f : FE) : FS := fun ρ c => match ρ[i]? with
  | some (.ow ds) => (f ρ c).bind fun d c1 => (fi ρ c1).bind fun j c2 => match j with
    | .int j => match ixN ds.length j with
      | some n => .ok (.nx (ρ.set i (.ow (ds.set n d)))) c2
      | none => .no
    | _ => .no
  | _ => .no
theorem ds_setIx (i : Nat) {pn sp : Pos} {ix : Expr} {fi : FE} (hn : PE X (.Name x pn) (tVar i)) (hi : PE X ix (dE p fi)) (ha : PE X a (dE p f))
    (hg : ∀ v, assign (.Subscript (.Name x pn) ix sp) X.env v = (do
      let ov ← holding [v] (eval (.Name x pn) X.env)
      let iv ← holding [v, ov] (eval ix X.env)
      standAt sp
      holding [v, ov, iv] (setItem ov iv v)
      release [v, ov, iv] []) := by intro _; rfl)
    (hs : swapsWithSole [.Subscript (.Name x pn) ix sp] a pos.line X.env = pure false := by rfl) (hw : swappedStores [.Subscript (.Name x pn) ix sp] a X.env = pure none := by rfl)
    (h1 : (assignEach [.Subscript (.Name x pn) ix sp] X.env).map (·.2) = [assign (.Subscript (.Name x pn) ix sp) X.env] := by rfl) :
    PS X (.Assign [.Subscript (.Name x pn) ix sp] a pos) (dS p (sSetIx i fi f)) :=
  (ps_asg ha (pg_sub hn hi set_list hg) hs hw h1).imp fun D σ H ⟨B, ρ, c, S, m⟩ => by
    unfold sSetIx at m
    split at m
    · rename_i ds e
      refine ⟨B, ρ, c, S, PostS.bE m fun d c1 v B1 H1 S1 r1 s1 m1 => ?_⟩
      obtain ⟨o, e1, a', xs, k1, k2, k3, k4, k5⟩ := S1.slot i _ e
      subst k1
      refine ⟨_, e1, B1, ρ, c1, S1, PostS.bE m1 fun j c2 u B2 H2 S2 r2 s2 m2 => ?_⟩
      obtain ⟨o2, e2, a2, xs2, l1, l2, l3, l4, l5⟩ := S2.slot i _ e
      rw [e1] at e2
      cases e2
      cases l1
      split at m2
      · rename_i j'
        split at m2
        · rename_i n hn'
          refine ⟨a', xs2, j', n, rfl, r2.of_int, l2, by rw [l5.len]; exact hn', ?_⟩
          exact m2 σ B2 _ (S2.mut e e1 (l5.set (r1.mono s2) n)) (Same.refl _)
        · exact m2.elim
      · exact m2.elim
    · exact m.elim
/-- the cell: at[0], at[0] = e -/
def fCell (i : Nat) : FE := fun ρ c => match ρ[i]? with
  | some .ce => .ok (.int c) c
  | _ => .no
theorem de_cell (i : Nat) {pn sp kp : Pos} {j : Nat} (hn : PE X (.Name x pn) (tVar i)) : PE X (.Subscript (.Name x pn) (.Constant (.int 0) j kp) sp) (dE p (fCell i)) :=
  (pe_ix ix_list hn pe_int (fun _ _ => rfl)).imp fun σ H Q ⟨B, ρ, c, S, m⟩ => by
    unfold fCell at m
    split at m
    · rename_i e
      obtain ⟨o, e1, a', e2, e3⟩ := S.slot i _ e
      subst e3
      exact ⟨_, e1, a', [.int c], 0, .int c, rfl, rfl, SqL.of (S.cel a' e2).1, rfl, m _ B H S (Same.refl _) (.int _)⟩
    · exact m.elim
def sCell (i : Nat) (f : FE) : FS := fun ρ c => match ρ[i]? with
  | some .ce => (f ρ c).bind fun d _ => match d with
    | .int n => .ok (.nx ρ) n
    | _ => .no
  | _ => .no
theorem Sta.cellSet {B H : Hp} {σ : St} {ρ : En} {c : Int} (S : Sta p B H σ ρ c) {a : Addr} (h : p.C = some a) (n : Int) : Sta p B (upd H a (.lst [.int n])) σ ρ n := by
  obtain ⟨q1, q2, q3⟩ := S.cel a h
  refine ⟨fun b x e => ?_, S.ext, S.new, fun b x e q => ?_, fun b e => ?_, S.len, S.ln, fun i s e => ?_, S.apart⟩
  · rw [upd_ne (ne_of_none e q2)]; exact S.sub b x e
  · rw [upd_ne (fun z => by subst z; exact q h)]; exact S.keep b x e q
  · rw [h] at e
    cases e
    exact ⟨upd_same, q2, q3⟩
  · obtain ⟨x, e1, k⟩ := S.slot i s e
    refine ⟨x, e1, ?_⟩
    cases s with
    | un => trivial
    | dt d => exact k
    | ow ds =>
      obtain ⟨b, zs, l1, l2, l3, l4, l5⟩ := k
      refine ⟨b, zs, l1, ?_, l3, l4, l5⟩
      rw [upd_ne (fun z => by subst z; exact q3 l4)]
      exact l2
    | ce => exact k
    | sc ns => exact k
    | xn x =>
      obtain ⟨b, dd, D, ns, vs, l1, l2, l3, l4, l5, l6⟩ := k
      exact ⟨b, dd, D, ns, vs, l1, l2, l3, by rw [upd_ne (fun z => by subst z; rw [q1] at l4; cases l4)]; exact l4, l5, l6⟩
theorem ds_cell (i : Nat) {pn sp kp : Pos} {j : Nat} (hn : PE X (.Name x pn) (tVar i)) (ha : PE X a (dE p f))
    (hg : ∀ v, assign (.Subscript (.Name x pn) (.Constant (.int 0) j kp) sp) X.env v = (do
      let ov ← holding [v] (eval (.Name x pn) X.env)
      let iv ← holding [v, ov] (eval (.Constant (.int 0) j kp) X.env)
      standAt sp
      holding [v, ov, iv] (setItem ov iv v)
      release [v, ov, iv] []) := by intro _; rfl)
    (hs : swapsWithSole [.Subscript (.Name x pn) (.Constant (.int 0) j kp) sp] a pos.line X.env = pure false := by rfl) (hw : swappedStores [.Subscript (.Name x pn) (.Constant (.int 0) j kp) sp] a X.env = pure none := by rfl)
    (h1 : (assignEach [.Subscript (.Name x pn) (.Constant (.int 0) j kp) sp] X.env).map (·.2) = [assign (.Subscript (.Name x pn) (.Constant (.int 0) j kp) sp) X.env] := by rfl) :
    PS X (.Assign [.Subscript (.Name x pn) (.Constant (.int 0) j kp) sp] a pos) (dS p (sCell i f)) :=
  (ps_asg ha (pg_sub hn pe_int set_list hg) hs hw h1).imp fun D σ H ⟨B, ρ, c, S, m⟩ => by
    unfold sCell at m
    split at m
    · rename_i e
      refine ⟨B, ρ, c, S, PostS.bE m fun d c1 v B1 H1 S1 r1 s1 m1 => ?_⟩
      obtain ⟨o, e1, a', e2, e3⟩ := S1.slot i _ e
      subst e3
      split at m1
      · rename_i n
        have rv := r1.of_int
        subst rv
        exact ⟨_, e1, a', [.int c1], 0, 0, rfl, rfl, (S1.cel a' e2).1, rfl, m1 σ B1 _ (S1.cellSet e2 n) (Same.refl _)⟩
      · exact m1.elim
    · exact m.elim
/-- reading an own list: x[e], len(x), its truth -/
def fOwIx (i : Nat) (f : FE) : FE := fun ρ c => match ρ[i]? with
  | some (.ow ds) => (f ρ c).bind fun d c1 => ofO (dIx (.list ds) d) c1
  | some (.dt e) => (f ρ c).bind fun d c1 => ofO (dIx e d) c1
  | _ => .no
theorem de_owIx (hk : p.K = X.K) (i : Nat) {pn sp : Pos} (hn : PE X (.Name x pn) (tVar i)) (hp : PlainIx a) (ha : PE X a (dE p f)) : PE X (.Subscript (.Name x pn) a sp) (dE p (fOwIx i f)) :=
  (pe_ix (ix_list.or (vix)) hn ha hp).imp fun σ H Q ⟨B, ρ, c, S, m⟩ => by
    unfold fOwIx at m
    split at m
    · rename_i ds e
      obtain ⟨o, e1, a', xs, k1, k2, k3, k4, k5⟩ := S.slot i _ e
      subst k1
      refine ⟨_, e1, B, ρ, c, S, m.bE fun d c1 v B1 H1 S1 r1 s1 m1 => ?_⟩
      obtain ⟨o2, e2, a2, xs2, l1, l2, l3, l4, l5⟩ := S1.slot i _ e
      rw [e1] at e2
      cases e2
      cases l1
      obtain ⟨d', e', q⟩ := ofO_ok m1
      unfold dIx at e'
      split at e'
      · rename_i hx
        cases hx
        obtain ⟨w, e3, r⟩ := atI_rp l5 e'
        exact .inl ⟨a', xs2, _, w, rfl, r1.of_int, SqL.of l2, e3, q w B1 H1 S1 (Same.refl _) r⟩
      · rename_i hx; cases hx
      · rename_i hx; cases hx
      · cases e'
    · rename_i d0 e
      obtain ⟨o, e1, v0, k1, k2⟩ := S.slot i _ e
      subst k1
      refine ⟨_, e1, B, ρ, c, S, m.bE fun d c1 v B1 H1 S1 r1 s1 m1 => ?_⟩
      obtain ⟨d', e', q⟩ := ofO_ok m1
      exact .inr ⟨B1, d0, d, d', S1.sub, hk ▸ k2.mono s1, hk ▸ r1, e', fun v' B' H' G r => q v' B' H' (S1.grow G) G.b (hk ▸ r)⟩
    · exact m.elim
end
end DL
end L2

set_option Elab.async false
set_option linter.all false
set_option maxRecDepth 100000
namespace L2
open PySem PySem.Spec PyProof.Rows
namespace DL
/-! ### what is walked -/
structure WalkD (K : PySem.W.Frag) (J : It) (ds : List PyData) (B1 : Hp) : Prop where
  goes : ∀ i B2 H, i < ds.length → Same B1 B2 → Same B2 H → J.go i H
  stops : ∀ B2 H, Same B1 B2 → Same B2 H → J.stop ds.length H
  yields : ∀ i B2 H x H', i < ds.length → Same B1 B2 → Same B2 H → J.yld i H x H' → ∃ B3 d, Gw B2 H B3 H' ∧ ds[i]? = some d ∧ Rp K B3 x d
def PostI (p : Par) (σ : St) (ρ : En) (B : Hp) (T : It → Hp → Prop) : R (List PyData) → Prop
  | .ok ds c' => ∀ J B' H', Sta p B' H' σ ρ c' → Same B B' → WalkD p.K J ds B' → T J H'
  | .ex x c' => ∀ B' H' cls d, Sta p B' H' σ ρ c' → Same B B' → ExOk p.K p.xt B' H' cls d x → p.W cls d σ H'
  | .no => False
def dI (p : Par) (f : FL) : TI := fun σ H T => ∃ B ρ c, Sta p B H σ ρ c ∧ PostI p σ ρ B T (f ρ c)
theorem PostI.from {p : Par} {σ : St} {ρ : En} {B B' : Hp} {T : It → Hp → Prop} {r : R (List PyData)} (h : PostI p σ ρ B T r) (s : Same B B') : PostI p σ ρ B' T r := by
  cases r with
  | ok d c => exact fun J B2 H2 S z => h J B2 H2 S (s.trans z)
  | ex x c => exact fun B2 H2 cls d S z e => h B2 H2 cls d S (s.trans z) e
  | no => exact h
theorem PostI.bE {p : Par} {σ : St} {ρ : En} {B : Hp} {T : It → Hp → Prop} {Q' : VK} {r : R PyData} {k : PyData → Int → R (List PyData)} (h : PostI p σ ρ B T (r.bind k))
    (hq : ∀ d c' v B' H', Sta p B' H' σ ρ c' → Rp p.K B' v d → Same B B' → PostI p σ ρ B' T (k d c') → Q' v H') : PostE p σ ρ B Q' r := by
  cases r with
  | ok d c => exact fun v B2 H2 S z r => hq d c v B2 H2 S r z (PostI.from h z)
  | ex x c => exact h
  | no => exact h
theorem PostI.bA {p : Par} {σ : St} {ρ : En} {B : Hp} {T : It → Hp → Prop} {Q' : List V → Hp → Prop} {r : R (List Sl)} {k : List Sl → Int → R (List PyData)} (h : PostI p σ ρ B T (r.bind k))
    (hq : ∀ d c' v B' H', Sta p B' H' σ ρ c' → ArA p.K p.C B' v d → Same B B' → PostI p σ ρ B' T (k d c') → Q' v H') : PostA p σ ρ B Q' r := by
  cases r with
  | ok d c => exact fun v B2 H2 S z r => hq d c v B2 H2 S r z (PostI.from h z)
  | ex x c => exact h
  | no => exact h
theorem walkD_list {K : PySem.W.Frag} {B : Hp} {a : Addr} {xs : List V} {ds : List PyData} (h : B a = some (.lst xs)) (r : RpA K B xs ds) : WalkD K (Itl K a) ds B where
  goes := fun i B2 H hi s1 s2 => by
    obtain ⟨v, e, _⟩ := r.get (List.getElem?_eq_getElem hi)
    exact ⟨xs, v, SqL.of (s2 _ _ (s1 _ _ h)), e⟩
  stops := fun B2 H s1 s2 => ⟨xs, SqL.of (s2 _ _ (s1 _ _ h)), by rw [r.len]; exact Nat.le_refl _⟩
  yields := fun i B2 H x H' hi s1 s2 y => by
    obtain ⟨e, y⟩ := y
    subst e
    have e2 := y xs (SqL.of (s2 _ _ (s1 _ _ h)))
    obtain ⟨d, e3, rd⟩ := r.get' e2
    exact ⟨B2, d, Gw.refl s2, e3, rd.mono s1⟩
theorem walkD_tup {K : PySem.W.Frag} {B : Hp} {a : Addr} {xs : List V} {ds : List PyData} (h : SqT K B a xs) (r : RpA K B xs ds) : WalkD K (Itt K a) ds B where
  goes := fun i B2 H hi s1 s2 => by
    obtain ⟨v, e, _⟩ := r.get (List.getElem?_eq_getElem hi)
    exact ⟨xs, v, Same.seqT s2 (Same.seqT s1 h), e⟩
  stops := fun B2 H s1 s2 => ⟨xs, Same.seqT s2 (Same.seqT s1 h), by rw [r.len]; exact Nat.le_refl _⟩
  yields := fun i B2 H x H' hi s1 s2 y => by
    obtain ⟨e, y⟩ := y
    subst e
    have e2 := y xs (Same.seqT s2 (Same.seqT s1 h))
    obtain ⟨d, e3, rd⟩ := r.get' e2
    exact ⟨B2, d, Gw.refl s2, e3, rd.mono s1⟩
def chars (z : Str) : List PyData := z.cps.toList.map fun c => .str ⟨#[c]⟩
theorem walkD_str {K : PySem.W.Frag} {B : Hp} (z : Str) : WalkD K (Its z) (chars z) B where
  goes := fun i B2 H hi _ _ => by
    simp only [chars, List.length_map, Array.length_toList] at hi
    exact hi
  stops := fun B2 H _ _ => by
    simp only [chars, List.length_map, Array.length_toList]
    exact Nat.le_refl _
  yields := fun i B2 H x H' hi _ s2 y => by
    obtain ⟨e, c, h1, h2⟩ := y
    subst e h2
    refine ⟨B2, .str ⟨#[c]⟩, Gw.refl s2, ?_, .str _⟩
    simp only [chars, List.getElem?_map, Array.getElem?_toList, h1, Option.map_some]
/-- lo, lo + 1, .. -/
def rngD (lo : Int) (n : Nat) : List PyData := (List.range n).map fun (i : Nat) => .int (lo + i)
theorem walkD_range {K : PySem.W.Frag} {B : Hp} (lo : Int) (n : Nat) : WalkD K (Itr lo n) (rngD lo n) B where
  goes := fun i B2 H hi _ _ => by
    simp only [rngD, List.length_map, List.length_range] at hi
    exact hi
  stops := fun B2 H _ _ => by
    simp only [rngD, List.length_map, List.length_range]
    exact Nat.le_refl _
  yields := fun i B2 H x H' hi _ s2 y => by
    obtain ⟨e, h2⟩ := y
    subst e h2
    simp only [rngD, List.length_map, List.length_range] at hi
    refine ⟨B2, .int (lo + i), Gw.refl s2, ?_, .int _⟩
    simp only [rngD, List.getElem?_map, List.getElem?_range hi, Option.map_some]
section
variable {X : Cx} {p : Par} {pos pp : Pos} {k : Nat} {a b tg : Expr} {f g : FE} {fa : FA}
/-- a list, a tuple, a text -/
def asSeq : PyData → Option (List PyData)
  | .list ds => some ds
  | .tuple ds => some ds
  | .str z => some (chars z)
  | _ => none
def lIt (f : FE) : FL := fun ρ c => (f ρ c).bind fun d c1 => ofO (asSeq d) c1
theorem di_seq (hk : p.K = X.K) (ha : PE X a (dE p f)) : PI X tg a (dI p (lIt f)) := by
  refine ⟨fun pins s σ H T I ⟨B, ρ, c, S, m⟩ => ?_⟩
  unfold lIt at m
  cases q : f ρ c with
  | no => rw [q] at m; exact m.elim
  | ex x c1 =>
    rw [q] at m
    refine (pi_list (tg := tg) ha).run pins s σ H T I ⟨B, ρ, c, S, ?_⟩
    rw [q]
    exact m
  | ok d c1 =>
    rw [q] at m
    simp only [R.bind] at m
    cases d with
    | list ds =>
      refine (pi_list (tg := tg) ha).run pins s σ H T I ⟨B, ρ, c, S, ?_⟩
      rw [q]
      intro v B1 H1 S1 s1 r1
      cases r1 with
      | lst h1 a1 => exact ⟨_, rfl, ⟨_, SqL.of (S1.sub _ _ h1)⟩, hk ▸ m _ B1 H1 S1 s1 (walkD_list h1 a1)⟩
    | tuple ds =>
      refine (pi_tup (tg := tg) ha).run pins s σ H T I ⟨B, ρ, c, S, ?_⟩
      rw [q]
      intro v B1 H1 S1 s1 r1
      cases r1 with
      | tup h1 a1 => exact ⟨_, rfl, ⟨_, hk ▸ Same.seqT S1.sub h1⟩, hk ▸ m _ B1 H1 S1 s1 (walkD_tup h1 a1)⟩
    | str z =>
      refine (pi_str (tg := tg) ha).run pins s σ H T I ⟨B, ρ, c, S, ?_⟩
      rw [q]
      intro v B1 H1 S1 s1 r1
      exact ⟨z, r1.of_str, m _ B1 H1 S1 s1 (walkD_str z)⟩
    | _ => exact m.elim
def rngOk (i : Int) : Bool := decide (i.natAbs < 2 ^ 62)
def rng1 : List Sl → Option (List PyData)
  | [.dt (.int j)] => if rngOk j then some (rngD 0 j.toNat) else none
  | _ => none
def rng2 : List Sl → Option (List PyData)
  | [.dt (.int i), .dt (.int j)] => if rngOk i && rngOk j then some (rngD i (j - i).toNat) else none
  | _ => none
def lRng (r : List Sl → Option (List PyData)) (fa : FA) : FL := fun ρ c => (fa ρ c).bind fun ss c1 => ofO (r ss) c1
theorem di_rng1 (hg : Gl X "range") (hm : X.mg "range" = none) (ha : PA X [a] (dA p fa)) (hs : starEach [a] X.env = [(false, eval a X.env)] := by rfl) : PI X tg (.Call (.Name "range" pp) [a] [] pos) (dI p (lRng rng1 fa)) := by
  refine ⟨fun pins s σ H T I ⟨B, ρ, c, S, m⟩ => (pi_range1 (tg := tg) hg hm ha hs).run pins s σ H T I ⟨B, ρ, c, S, PostI.bA m fun ss c1 vs B1 H1 S1 a1 s1 m1 => ?_⟩⟩
  unfold rng1 at m1
  split at m1
  · rename_i j
    split at m1
    · rename_i hf
      simp only [rngOk, Bool.and_eq_true, decide_eq_true_eq] at hf
      cases a1 with
      | cons h t =>
        cases t
        have e := Rp.of_int h
        exact ⟨j, by rw [e], by omega, by omega, m1 _ B1 H1 S1 (Same.refl _) (walkD_range 0 j.toNat)⟩
    · exact m1.elim
  · exact m1.elim
theorem di_rng2 (hg : Gl X "range") (hm : X.mg "range" = none) (ha : PA X [a, b] (dA p fa)) (hs : starEach [a, b] X.env = [(false, eval a X.env), (false, eval b X.env)] := by rfl) (hs2 : starEach [b] X.env = [(false, eval b X.env)] := by rfl) :
    PI X tg (.Call (.Name "range" pp) [a, b] [] pos) (dI p (lRng rng2 fa)) := by
  refine ⟨fun pins s σ H T I ⟨B, ρ, c, S, m⟩ => (pi_range2 (tg := tg) hg hm ha hs hs2).run pins s σ H T I ⟨B, ρ, c, S, PostI.bA m fun ss c1 vs B1 H1 S1 a1 s1 m1 => ?_⟩⟩
  unfold rng2 at m1
  split at m1
  · rename_i i j
    split at m1
    · rename_i hf
      simp only [rngOk, Bool.and_eq_true, decide_eq_true_eq] at hf
      cases a1 with
      | cons h t =>
        cases t with
        | cons h2 t2 =>
          cases t2
          have e := Rp.of_int h
          have e2 := Rp.of_int h2
          exact ⟨i, j, by rw [e, e2], ⟨by omega, by omega, by omega, by omega⟩, m1 _ B1 H1 S1 (Same.refl _) (walkD_range i (j - i).toNat)⟩
    · exact m1.elim
  · exact m1.elim
end

/-! ### for, while -/
def forD (t : FG) (g : FS) : List PyData → En → Int → R Fl
  | [], ρ, c => .ok (.nx ρ) c
  | d :: ds, ρ, c => match t d ρ with
    | none => .no
    | some ρ1 => (g ρ1 c).bind fun fl c1 => match fl with
      | .nx ρ2 => forD t g ds ρ2 c1
      | .ct ρ2 => forD t g ds ρ2 c1
      | .bk ρ2 => .ok (.nx ρ2) c1
      | .rt d => .ok (.rt d) c1
def sFor (fi : FL) (t : FG) (g : FS) : FS := fun ρ c => (fi ρ c).bind fun ds c1 => forD t g ds ρ c1
/-- behind a loop's turn -/
theorem turn_ok {p : Par} {B : Hp} {D : Ends} {r : R Fl} {go : En → Int → R Fl} {N : St → Hp → Prop}
    (m : PostS p B D (r.bind fun fl c1 => match fl with
      | .nx ρ2 => go ρ2 c1
      | .ct ρ2 => go ρ2 c1
      | .bk ρ2 => .ok (.nx ρ2) c1
      | .rt d => .ok (.rt d) c1))
    (hN : ∀ σ' B' H' ρ' c', Sta p B' H' σ' ρ' c' → Same B B' → PostS p B' D (go ρ' c') → N σ' H') : PostS p B { D with nx := N, ct := N, bk := D.nx } r := by
  match r, m with
  | .ok (.nx ρ2) c1, m => exact fun σ' B' H' S s => hN σ' B' H' ρ2 c1 S s (PostS.from m s)
  | .ok (.ct ρ2) c1, m => exact fun σ' B' H' S s => hN σ' B' H' ρ2 c1 S s (PostS.from m s)
  | .ok (.bk ρ2) c1, m => exact m
  | .ok (.rt d) c1, m => exact m
  | .ex x c1, m => exact m
  | .no, m => exact m
section
variable {X : Cx} {p : Par} {pos : Pos} {k : Nat} {tg iter cnd : Expr} {body : List Stmt} {fi : FL} {t : FG} {vs : List Nat} {g : FS} {ft : FT}
theorem ds_for (Z : Cz X p k) (hi : PI X tg iter (dI p fi)) (hg : PG X tg (dG p vs t)) (hb : PSs X body (dS p g)) (hs : ∀ x, foldedSetIterable iter X.env x = pure x := by intro _; rfl) : PS X (.For tg iter body [] pos) (dS p (sFor fi t g)) :=
  (ps_for Z.po Z.calm hi hg hb hs).imp fun D σ H ⟨B, ρ, c, S, m⟩ => by
    refine ⟨B, ρ, c, S, ?_⟩
    unfold sFor at m
    cases q : fi ρ c with
    | no => rw [q] at m; exact m.elim
    | ex x c1 => rw [q] at m; exact fun B2 H2 cls d S2 z e => m σ ρ B2 H2 cls d S2 z e
    | ok ds c1 =>
      rw [q] at m
      intro J B1 H1 S1 s1 W
      refine ⟨fun i n σ' H' => n = ds.length - i ∧ i ≤ ds.length ∧ ∃ B' ρ' c', Sta p B' H' σ' ρ' c' ∧ Same B1 B' ∧ PostS p B' D (forD t g (ds.drop i) ρ' c'), ⟨ds.length, by simp, Nat.zero_le _, B1, ρ, c1, S1, Same.refl _, PostS.from m s1⟩, ?_⟩
      rintro i n σ2 H2 ⟨rfl, hi2, B2, ρ2, c2, S2, s2, m2⟩
      by_cases hlt : i < ds.length
      · have ed : ds.drop i = ds[i] :: ds.drop (i + 1) := List.drop_eq_getElem_cons hlt
        rw [ed] at m2
        unfold forD at m2
        refine .inr ⟨W.goes i B2 H2 hlt s2 S2.sub, fun σ' H' => ∃ B' ρ' c', Sta p B' H' σ' ρ' c' ∧ Same B1 B' ∧ PostS p B' D (forD t g (ds.drop (i + 1)) ρ' c'),
          fun σ' H' ⟨B', ρ', c', S', s', m'⟩ => ⟨ds.length - (i + 1), by omega, rfl, hlt, B', ρ', c', S', s', m'⟩, fun x H3 y => ?_⟩
        obtain ⟨B3, d, G3, e3, r3⟩ := W.yields i B2 H2 x H3 hlt s2 S2.sub y
        rw [List.getElem?_eq_getElem hlt] at e3
        cases e3
        refine ⟨B3, ρ2, c2, _, S2.grow G3, r3, ?_⟩
        cases q2 : t ds[i] ρ2 with
        | none => rw [q2] at m2; exact m2.elim
        | some ρ3 =>
          rw [q2] at m2
          refine fun σ4 B4 H4 S4 s4 _ => ⟨B4, ρ3, c2, S4, turn_ok (PostS.from m2 (G3.b.trans s4)) fun σ5 B5 H5 ρ5 c5 S5 s5 m5 => ⟨B5, ρ5, c5, S5, ?_, m5⟩⟩
          exact s2.trans (G3.b.trans (s4.trans s5))
      · have ei : i = ds.length := by omega
        subst ei
        rw [List.drop_length] at m2
        exact .inl ⟨W.stops B2 H2 s2 S2.sub, m2 σ2 B2 H2 S2 (Same.refl _)⟩
/-- while: by so many turns at most -/
def whD (ft : FT) (g : FS) : Nat → En → Int → R Fl
  | 0, _, _ => .no
  | n + 1, ρ, c => (ft ρ c).bind fun k c1 => if k = true then (g ρ c1).bind fun fl c2 => match fl with
      | .nx ρ2 => whD ft g n ρ2 c2
      | .ct ρ2 => whD ft g n ρ2 c2
      | .bk ρ2 => .ok (.nx ρ2) c2
      | .rt d => .ok (.rt d) c2
    else .ok (.nx ρ) c1
open Classical in
noncomputable def sWh (ft : FT) (g : FS) : FS := fun ρ c => if h : ∃ n, whD ft g n ρ c ≠ .no then whD ft g (Classical.choose h) ρ c else .no
theorem ds_while (Z : Cz X p k) (hc : PT X cnd (dT p ft)) (hb : PSs X body (dS p g)) : PS X (.While cnd body [] pos) (dS p (sWh ft g)) :=
  (ps_while Z.po hc hb).imp fun D σ H ⟨B, ρ, c, S, m⟩ => by
    unfold sWh at m
    split at m
    · rename_i hx
      generalize Classical.choose hx = n0 at m
      refine ⟨fun n σ' H' => ∃ B' ρ' c', Sta p B' H' σ' ρ' c' ∧ PostS p B' D (whD ft g n ρ' c'), ⟨n0, B, ρ, c, S, m⟩, ?_⟩
      rintro n σ1 H1 ⟨B1, ρ1, c1, S1, m1⟩
      cases n with
      | zero => exact m1.elim
      | succ n =>
        unfold whD at m1
        refine ⟨B1, ρ1, c1, S1, PostS.bT m1 fun kk c2 B2 H2 S2 s2 m2 => ?_⟩
        cases kk with
        | true =>
          simp only [if_true] at m2 ⊢
          refine ⟨fun σ' H' => ∃ B' ρ' c', Sta p B' H' σ' ρ' c' ∧ PostS p B' D (whD ft g n ρ' c'), fun σ' H' q => ⟨n, Nat.lt_succ_self n, q⟩, B2, ρ1, c2, S2, turn_ok m2 fun σ5 B5 H5 ρ5 c5 S5 s5 m5 => ⟨B5, ρ5, c5, S5, m5⟩⟩
        | false =>
          simp only [if_false, Bool.false_eq_true] at m2 ⊢
          exact m2 σ1 B2 H2 S2 (Same.refl _)
    · exact m.elim
theorem whD_mono {ft : FT} {g : FS} : ∀ (n m : Nat) (ρ : En) (c : Int), n ≤ m → whD ft g n ρ c ≠ .no → whD ft g m ρ c = whD ft g n ρ c := by
  intro n
  induction n with
  | zero => intro m ρ c _ h; exact absurd rfl h
  | succ n ih =>
    intro m ρ c hm h
    cases m with
    | zero => omega
    | succ m =>
      unfold whD at h ⊢
      cases q : ft ρ c with
      | no => rfl
      | ex x c1 => rfl
      | ok kk c1 =>
        rw [q] at h
        simp only [R.bind] at h ⊢
        cases kk with
        | false => rfl
        | true =>
          simp only [if_true] at h ⊢
          cases q2 : g ρ c1 with
          | no => rfl
          | ex x c2 => rfl
          | ok fl c2 =>
            rw [q2] at h
            simp only at h ⊢
            cases fl with
            | nx ρ2 => exact ih m ρ2 c2 (by omega) h
            | ct ρ2 => exact ih m ρ2 c2 (by omega) h
            | bk ρ2 => rfl
            | rt d => rfl
theorem sWh_of {ft : FT} {g : FS} {ρ : En} {c : Int} {n : Nat} {r : R Fl} (h : whD ft g n ρ c = r) (hr : r ≠ .no) : sWh ft g ρ c = r := by
  have hx : ∃ n, whD ft g n ρ c ≠ .no := ⟨n, by rw [h]; exact hr⟩
  unfold sWh
  rw [dif_pos hx]
  have h1 := Classical.choose_spec hx
  rcases Nat.le_total n (Classical.choose hx) with l | l
  · rw [whD_mono n _ ρ c l (by rw [h]; exact hr), h]
  · rw [← whD_mono _ n ρ c l h1, h]
end

/-! ### comprehensions -/
def hide1 : Sl → Sl
  | .ow _ => .un
  | .xn _ => .un
  | s => s
def wipeE (ρ : En) : List Nat → En
  | [] => ρ
  | v :: vs => (wipeE ρ vs).set v .un
def blkE (ρ : En) (vs : List Nat) : En := wipeE (ρ.map hide1) vs
def compD (t : FG) (ft : FT) (fe : FE) (ρb : En) : List PyData → Int → R (List PyData)
  | [], c => .ok [] c
  | d :: ds, c => match t d ρb with
    | none => .no
    | some ρ1 => (ft ρ1 c).bind fun k c1 => if k = true then (fe ρ1 c1).bind fun e c2 => (compD t ft fe ρb ds c2).bind fun es c3 => .ok (e :: es) c3 else compD t ft fe ρb ds c1
def lComp (fi : FL) (vs : List Nat) (t : FG) (ft : FT) (fe : FE) : FL := fun ρ c => (fi ρ c).bind fun ds c1 => match compD t ft fe (blkE ρ vs) ds c1 with
  | .ok es c2 => if lineOk es.length then .ok es c2 else .no
  | _ => .no
theorem wipeE_len (ρ : En) : ∀ vs : List Nat, (wipeE ρ vs).length = ρ.length
  | [] => rfl
  | v :: vs => by unfold wipeE; rw [List.length_set, wipeE_len ρ vs]
theorem wipeE_get {ρ : En} {i : Nat} {s : Sl} : ∀ {vs : List Nat}, (wipeE ρ vs)[i]? = some s → s ≠ .un → ρ[i]? = some s ∧ i ∉ vs
  | [], h, _ => ⟨h, by simp⟩
  | v :: vs, h, hs => by
    unfold wipeE at h
    by_cases hv : v = i
    · subst hv
      by_cases hl : v < (wipeE ρ vs).length
      · rw [List.getElem?_set_self hl] at h; cases h; exact absurd rfl hs
      · rw [List.getElem?_eq_none (by rw [List.length_set]; omega)] at h; cases h
    · rw [List.getElem?_set_ne hv] at h
      obtain ⟨h1, h2⟩ := wipeE_get h hs
      exact ⟨h1, by simp only [List.mem_cons, not_or]; exact ⟨fun e => hv e.symm, h2⟩⟩
/-- the block's own view -/
theorem Sta.block {p : Par} {B H : Hp} {σ : St} {ρ : En} {c : Int} (S : Sta p B H σ ρ c) (vs : List Nat) (W : WX) : Sta ⟨p.K, p.C, B, H, p.xt, W, none, p.n⟩ B H (wipe σ vs) (blkE ρ vs) c where
  sub := S.sub
  ext := Same.refl _
  new := fun a h => .inl h
  keep := fun a o e _ => e
  cel := fun a e => by
    obtain ⟨q1, q2, q3⟩ := S.cel a e
    exact ⟨q1, q2, fun z => by have z' : H a = none := z; rw [q1] at z'; cases z'⟩
  len := by unfold blkE; rw [wipe_length, wipeE_len, List.length_map]; exact S.len
  ln := by rw [wipe_length]; exact S.ln
  slot := fun i s e => by
    have hi : i < σ.length := by
      have h := (List.getElem?_eq_some_iff.mp e).1
      unfold blkE at h
      rw [wipeE_len, List.length_map] at h
      rw [S.len]; exact h
    by_cases hs : s = .un
    · subst hs
      exact ⟨_, List.getElem?_eq_getElem (by rw [wipe_length]; exact hi), trivial⟩
    · obtain ⟨e1, hv⟩ := wipeE_get e hs
      rw [List.getElem?_map] at e1
      cases q : ρ[i]? with
      | none => rw [q] at e1; cases e1
      | some s0 =>
        rw [q] at e1
        simp only [Option.map_some, Option.some.injEq] at e1
        obtain ⟨o, k1, k2⟩ := S.slot i s0 q
        refine ⟨o, by rw [wipe_get, if_neg fun z => hv z.1]; exact k1, ?_⟩
        cases s0 with
        | un => simp only [hide1] at e1; exact absurd e1.symm hs
        | ow ds => simp only [hide1] at e1; exact absurd e1.symm hs
        | xn x => simp only [hide1] at e1; exact absurd e1.symm hs
        | sc ns => simp only [hide1] at e1; subst e1; exact k2
        | dt d => simp only [hide1] at e1; subst e1; exact k2
        | ce => simp only [hide1] at e1; subst e1; exact k2
  apart := fun i j a ds es e1 _ _ _ => by
    obtain ⟨q, _⟩ := wipeE_get (ρ := ρ.map hide1) e1 (fun z => nomatch z)
    rw [List.getElem?_map] at q
    cases q2 : ρ[i]? with
    | none => rw [q2] at q; cases q
    | some s0 => rw [q2] at q; cases s0 <;> simp [hide1] at q
/-- what a block leaves, seen from without -/
theorem Sta.unblock {p : Par} {B H B' H' : Hp} {σ σ' : St} {ρ ρ' : En} {c c' : Int} {W : WX} (S : Sta p B H σ ρ c) (S' : Sta ⟨p.K, p.C, B, H, p.xt, W, none, p.n⟩ B' H' σ' ρ' c') : Gr p.C B H B' H' ∧ Sta p B' H' σ ρ c' := by
  have g : Gr p.C B H B' H' := ⟨S'.ext, S'.sub, S'.new, S'.keep⟩
  exact ⟨g, S.call g fun a e => (S'.cel a e).1⟩
def W0 : WX := fun _ _ _ _ => False
/-- readings that hold for every entry -/
def anE (K : PySem.W.Frag) (C : Option Addr) (xt : List XC) (n : Nat) (f : FE) : TE := fun σ H Q => ∃ B0 H0, dE ⟨K, C, B0, H0, xt, W0, none, n⟩ f σ H Q
def anT (K : PySem.W.Frag) (C : Option Addr) (xt : List XC) (n : Nat) (f : FT) : TT := fun σ H Q => ∃ B0 H0, dT ⟨K, C, B0, H0, xt, W0, none, n⟩ f σ H Q
def anG (K : PySem.W.Frag) (C : Option Addr) (xt : List XC) (n : Nat) (vs : List Nat) (t : FG) : TG := fun v σ H Q => ∃ B0 H0, dG ⟨K, C, B0, H0, xt, W0, none, n⟩ vs t v σ H Q
theorem PTs.of_pt {X : Cx} {cnd : Expr} {t : TT} (h : PT X cnd t) : PTs X [cnd] t := pts_one h
def tYs : FT := fun _ c => .ok true c
section
variable {X : Cx} {K : PySem.W.Frag} {C : Option Addr} {B0 H0 : Hp} {xt : List XC} {W : WX} {k n : Nat} {pos : Pos} {elt tg iter : Expr} {ifs : List Expr} {scope : Scope} {own : List (Str × Nat)} {fi : FL} {t : FG} {ft : FT} {fe : FE}
theorem comp_ok {σ : St} {H : Hp} {Q : VK} {vs : List Nat} (m0 : dF ⟨K, C, B0, H0, xt, W, none, n⟩ (lComp fi vs t ft fe) σ H Q) :
    tLc (dI ⟨K, C, B0, H0, xt, W, none, n⟩ fi) (anG K C xt n vs t) (anT K C xt n ft) (anE K C xt n fe) vs σ H Q := by
  obtain ⟨B, ρ, c, S, m⟩ := m0
  refine ⟨B, ρ, c, S, ?_⟩
  unfold lComp at m
  cases q : fi ρ c with
  | no => rw [q] at m; exact m.elim
  | ex x c1 => rw [q] at m; exact m
  | ok ds c1 =>
    rw [q] at m
    intro J B1 H1 S1 s1 Wk D hD
    simp only [R.bind] at m
    cases q2 : compD t ft fe (blkE ρ vs) ds c1 with
    | no => rw [q2] at m; exact m.elim
    | ex x c2 => rw [q2] at m; exact m.elim
    | ok es cf =>
      rw [q2] at m
      simp only at m
      split at m
      · rename_i hz
        have hz' := lineOk_le hz
        have hD0 := S1.none0 hD
        have hDu := unheld_new S1 hD
        have hDB := S1.sub.free hD
        have hDC : C ≠ some D := fun z => by
          have := (S1.cel D z).1
          rw [hD] at this
          cases this
        refine ⟨fun i m' H' => m' = ds.length - i ∧ i ≤ ds.length ∧ ∃ B' c' acc as rs, Sta ⟨K, C, B0, H0, xt, W, none, n⟩ B' H' σ ρ c' ∧ Same B1 B' ∧ B' D = none ∧ H' D = some (.lst acc) ∧ RpA K B' acc as ∧ compD t ft fe (blkE ρ vs) (ds.drop i) c' = .ok rs cf ∧ es = as ++ rs,
          ⟨ds.length, by simp, Nat.zero_le _, B1, c1, [], [], es, S1.grow (Gw.held S1.sub _ hD), Same.refl _, hDB, upd_same, .nil, q2, rfl⟩, ?_⟩
        rintro i m' H2 ⟨rfl, hi2, B2, c2, acc, as, rs, S2, s2, d2, h2, r2, cp, ee⟩
        by_cases hlt : i < ds.length
        · have ed : ds.drop i = ds[i] :: ds.drop (i + 1) := List.drop_eq_getElem_cons hlt
          rw [ed] at cp
          unfold compD at cp
          refine .inr ⟨Wk.goes i B2 H2 hlt s2 S2.sub, fun H' => ∃ B' c' acc as rs, Sta ⟨K, C, B0, H0, xt, W, none, n⟩ B' H' σ ρ c' ∧ Same B1 B' ∧ B' D = none ∧ H' D = some (.lst acc) ∧ RpA K B' acc as ∧ compD t ft fe (blkE ρ vs) (ds.drop (i + 1)) c' = .ok rs cf ∧ es = as ++ rs,
            fun H' z => ⟨ds.length - (i + 1), by omega, rfl, hlt, z⟩, fun x H3 y => ?_⟩
          obtain ⟨B3, d, G3, e3, r3⟩ := Wk.yields i B2 H2 x H3 hlt s2 S2.sub y
          rw [List.getElem?_eq_getElem hlt] at e3
          cases e3
          have S3 := S2.grow G3
          have d3 : B3 D = none := by
            cases z : B3 D with
            | none => rfl
            | some o =>
              rcases G3.n D (by rw [z]; exact fun z => nomatch z) with z2 | z2
              · exact absurd d2 z2
              · rw [h2] at z2; cases z2
          have h3 := G3.k _ _ h2
          have Sb := S3.block vs W0
          cases q3 : t ds[i] (blkE ρ vs) with
          | none => rw [q3] at cp; cases cp
          | some ρ1 =>
            rw [q3] at cp
            simp only at cp
            refine ⟨B3, H3, B3, blkE ρ vs, c2, _, Sb, r3, ?_⟩
            rw [q3]
            refine fun σ4 B4 H4 S4 s4 w4 => ⟨by rw [w4]; apply List.ext_getElem?; intro j; rw [wipe_get, wipe_get, wipe_length]; by_cases hj : j ∈ vs ∧ j < σ.length <;> simp [hj], B3, H3, B4, ρ1, c2, S4, ?_⟩
            cases q4 : ft ρ1 c2 with
            | no => rw [q4] at cp; cases cp
            | ex x c3 => rw [q4] at cp; cases cp
            | ok kk c3 =>
              rw [q4] at cp
              simp only [R.bind] at cp
              intro B5 H5 S5 s5
              have gD : ∀ {B' H' σ' ρ' c'}, Sta ⟨K, C, B3, H3, xt, W0, none, n⟩ B' H' σ' ρ' c' → B' D = none ∧ H' D = some (.lst acc) := fun {B' H' σ' ρ' c'} S' => by
                refine ⟨?_, S'.keep D _ h3 hDC⟩
                cases z : B' D with
                | none => rfl
                | some o =>
                  rcases S'.new D (by rw [z]; exact fun z => nomatch z) with z2 | z2
                  · exact absurd d3 z2
                  · have z3 : H3 D = none := z2
                    rw [h3] at z3; cases z3
              cases kk with
              | false =>
                simp only [if_false, Bool.false_eq_true] at cp ⊢
                obtain ⟨g5, U5⟩ := S3.unblock S5
                obtain ⟨x1, x2⟩ := gD S5
                exact ⟨B5, c3, acc, as, rs, U5, s2.trans (G3.b.trans g5.b), x1, x2, r2.mono (G3.b.trans g5.b), cp, ee⟩
              | true =>
                simp only [if_true] at cp ⊢
                refine ⟨B3, H3, B5, ρ1, c3, S5, ?_⟩
                cases q5 : fe ρ1 c3 with
                | no => rw [q5] at cp; cases cp
                | ex x c4 => rw [q5] at cp; cases cp
                | ok e c4 =>
                  rw [q5] at cp
                  simp only at cp
                  cases q6 : compD t ft fe (blkE ρ vs) (ds.drop (i + 1)) c4 with
                  | no => rw [q6] at cp; cases cp
                  | ex x c5 => rw [q6] at cp; cases cp
                  | ok rs2 c5 =>
                    rw [q6] at cp
                    cases cp
                    intro v B6 H6 S6 s6 r6
                    obtain ⟨g6, U6⟩ := S3.unblock S6
                    obtain ⟨x1, x2⟩ := gD S6
                    refine ⟨acc, x2, ?_, B6, c4, acc ++ [v], as ++ [e], rs2, U6.poke x1 hD0 hDu, s2.trans (G3.b.trans g6.b), x1, upd_same, (r2.mono (G3.b.trans g6.b)).app (.cons r6 .nil), q6, by rw [ee, List.append_assoc]; rfl⟩
                    rw [r2.len]
                    have : es.length = as.length + (rs2.length + 1) := by rw [ee, List.length_append, List.length_cons]
                    omega
        · have ei : i = ds.length := by omega
          subst ei
          rw [List.drop_length] at cp
          unfold compD at cp
          cases cp
          rw [List.append_nil] at ee
          subst ee
          exact .inl ⟨Wk.stops B2 H2 s2 S2.sub, m D acc B2 H2 S2 (s1.trans s2) h2 d2 hD0 hDu r2⟩
      · exact m.elim
theorem Cz.blk (Z : Cz X ⟨K, C, B0, H0, xt, W, none, n⟩ k) (s : Shared) (H : Hp) (Cc : Addr) (cl : List (Str × Addr)) (fp : List Addr) (B1 H1 : Hp) : Cz (X.blk s H scope (compEnvC scope cl Cc X.env) fp) ⟨K, C, B1, H1, xt, W0, none, n⟩ k :=
  ⟨Z.hk, Z.room, Z.gd, Z.calm, Z.nd, takes0, PassesOwn.never⟩
theorem df_lc (Z : Cz X ⟨K, C, B0, H0, xt, W, none, n⟩ k) (hi : PI X tg iter (dI ⟨K, C, B0, H0, xt, W, none, n⟩ fi)) (ok : BlkOk X.N X.env.scope scope own)
    (hg : ∀ (s : Shared) (H : Hp) (Cc : Addr) (cl : List (Str × Addr)) (fp : List Addr) (B1 H1 : Hp), Cz (X.blk s H scope (compEnvC scope cl Cc X.env) fp) ⟨K, C, B1, H1, xt, W0, none, n⟩ k → PG (X.blk s H scope (compEnvC scope cl Cc X.env) fp) tg (dG ⟨K, C, B1, H1, xt, W0, none, n⟩ (own.map (·.2)) t))
    (ht : ∀ (s : Shared) (H : Hp) (Cc : Addr) (cl : List (Str × Addr)) (fp : List Addr) (B1 H1 : Hp), Cz (X.blk s H scope (compEnvC scope cl Cc X.env) fp) ⟨K, C, B1, H1, xt, W0, none, n⟩ k → PTs (X.blk s H scope (compEnvC scope cl Cc X.env) fp) ifs (dT ⟨K, C, B1, H1, xt, W0, none, n⟩ ft))
    (he : ∀ (s : Shared) (H : Hp) (Cc : Addr) (cl : List (Str × Addr)) (fp : List Addr) (B1 H1 : Hp), Cz (X.blk s H scope (compEnvC scope cl Cc X.env) fp) ⟨K, C, B1, H1, xt, W0, none, n⟩ k → PE (X.blk s H scope (compEnvC scope cl Cc X.env) fp) elt (dE ⟨K, C, B1, H1, xt, W0, none, n⟩ fe))
    (hs : ∀ x, foldedSetIterable iter X.env x = pure x := by intro _; rfl) :
    PE X (.ListComp elt [⟨tg, iter, ifs, 0⟩] scope pos) (dF ⟨K, C, B0, H0, xt, W, none, n⟩ (lComp fi (own.map (·.2)) t ft fe)) :=
  (pe_lc Z.calm Z.nd hi ok (g := anG K C xt n (own.map (·.2)) t) (tt := anT K C xt n ft) (te := anE K C xt n fe)
    (fun s H Cc cl fp => ⟨fun pins s' σ H' v u Q I r ⟨B1, H1, z⟩ => (hg s H Cc cl fp B1 H1 (Z.blk s H Cc cl fp B1 H1)).run pins s' σ H' v u Q I r z⟩)
    (fun s H Cc cl fp => ⟨fun pins s' σ H' Q I ⟨B1, H1, z⟩ => (ht s H Cc cl fp B1 H1 (Z.blk s H Cc cl fp B1 H1)).run pins s' σ H' Q I z⟩)
    (fun s H Cc cl fp => ⟨fun pins s' σ H' Q I ⟨B1, H1, z⟩ => (he s H Cc cl fp B1 H1 (Z.blk s H Cc cl fp B1 H1)).run pins s' σ H' Q I z⟩) hs).imp fun _ _ _ h => comp_ok h
theorem dts_nil {X : Cx} {p : Par} : PTs X [] (dT p tYs) := ⟨fun pins s σ H Q I ⟨B, ρ, c, S, m⟩ => pts_nil.run pins s σ H Q I (m B H S (Same.refl _))⟩
/-- y = [..] on one line -/
theorem ds_lc {i : Nat} {y : Str} {py spos : Pos} (Z : Cz X ⟨K, C, B0, H0, xt, W, none, n⟩ k) (hy : X.N[i]? = some y) (hyl : X.env.scope.names.lookup y = some .local)
    (hsw : swapsWith (.ListComp elt [⟨tg, iter, ifs, 0⟩] scope pos) (some (.Name y py)) spos.line X.env = pure true) (hi : PI X tg iter (dI ⟨K, C, B0, H0, xt, W, none, n⟩ fi)) (ok : BlkOk X.N X.env.scope scope own)
    (hg : ∀ (s : Shared) (H : Hp) (Cc : Addr) (cl : List (Str × Addr)) (fp : List Addr) (B1 H1 : Hp), Cz (X.blk s H scope (compEnvC scope cl Cc X.env) fp) ⟨K, C, B1, H1, xt, W0, none, n⟩ k → PG (X.blk s H scope (compEnvC scope cl Cc X.env) fp) tg (dG ⟨K, C, B1, H1, xt, W0, none, n⟩ (own.map (·.2)) t))
    (ht : ∀ (s : Shared) (H : Hp) (Cc : Addr) (cl : List (Str × Addr)) (fp : List Addr) (B1 H1 : Hp), Cz (X.blk s H scope (compEnvC scope cl Cc X.env) fp) ⟨K, C, B1, H1, xt, W0, none, n⟩ k → PTs (X.blk s H scope (compEnvC scope cl Cc X.env) fp) ifs (dT ⟨K, C, B1, H1, xt, W0, none, n⟩ ft))
    (he : ∀ (s : Shared) (H : Hp) (Cc : Addr) (cl : List (Str × Addr)) (fp : List Addr) (B1 H1 : Hp), Cz (X.blk s H scope (compEnvC scope cl Cc X.env) fp) ⟨K, C, B1, H1, xt, W0, none, n⟩ k → PE (X.blk s H scope (compEnvC scope cl Cc X.env) fp) elt (dE ⟨K, C, B1, H1, xt, W0, none, n⟩ fe))
    (hs : ∀ x, foldedSetIterable iter X.env x = pure x := by intro _; rfl) :
    PS X (.Assign [.Name y py] (.ListComp elt [⟨tg, iter, ifs, 0⟩] scope pos) spos) (dS ⟨K, C, B0, H0, xt, W, none, n⟩ (sOw i (lComp fi (own.map (·.2)) t ft fe))) :=
  (ps_setLc (i := i) Z.calm Z.nd hy hyl hsw hi ok (g := anG K C xt n (own.map (·.2)) t) (tt := anT K C xt n ft) (te := anE K C xt n fe)
    (fun s H Cc cl fp => ⟨fun pins s' σ H' v u Q I r ⟨B1, H1, z⟩ => (hg s H Cc cl fp B1 H1 (Z.blk s H Cc cl fp B1 H1)).run pins s' σ H' v u Q I r z⟩)
    (fun s H Cc cl fp => ⟨fun pins s' σ H' Q I ⟨B1, H1, z⟩ => (ht s H Cc cl fp B1 H1 (Z.blk s H Cc cl fp B1 H1)).run pins s' σ H' Q I z⟩)
    (fun s H Cc cl fp => ⟨fun pins s' σ H' Q I ⟨B1, H1, z⟩ => (he s H Cc cl fp B1 H1 (Z.blk s H Cc cl fp B1 H1)).run pins s' σ H' Q I z⟩) hs).imp fun D σ H ⟨B, ρ, c, S, m⟩ =>
    comp_ok (Q := fun x H1 => gName i x σ H1 D.nx) ⟨B, ρ, c, S, PostS.bL m fun ds c1 a xs B1 H1 S1 s1 e1 e2 e3 u r m1 => m1 _ B1 H1 (S1.setOw e1 e2 e3 u r) (Same.refl _)⟩
end
end DL
end L2

set_option Elab.async false
set_option linter.all false
set_option maxRecDepth 100000
namespace L2
open PySem PySem.Spec PyProof.Rows
namespace DL
/-! ### a def of the text -/
section
variable {P : Program} {w : World} {K : PySem.W.Frag} {mg : Str → Option Value} {base : Heap} {C : Option Addr} {xt : List XC}
/-- by its body, as L2.fn_of, the guards told -/
theorem fnG_of {k : Nat} {f : Addr} {nm qual : Str} {params : Arguments} {body : List Stmt} {scope : Scope} {dV kV doc pm cdv ct oc : Value} {an od : Option Addr} {osl : Array (Option Value)} {N ps : List Str} {sp : Sp}
    (lk : K.lookup f = some ⟨oc, od, .func (PySem.W.fnOf nm qual params body scope dV kV doc pm an cdv ct), osl⟩) (hcd : PySem.W.codeIn K cdv qual = true) (S : FnScope N ps scope) (len : ∀ vs H Q E, sp vs H Q E → vs.length = ps.length)
    (hbody : ∀ (A : Around) (outer : List Env) (s : Shared) (H : Hp) (vs : List V) (Q : VK) (E : XK), Room k (A.deeper (envOfC qual scope s.heap.objs.size f cdv)) → A.guards = some [] → sp vs H Q E →
      ∃ t, PSs (cxOf (L2.CX P w) P w K mg base N qual scope f cdv A outer s H E) body t ∧ t { nx := fun _ H' => Q .non H', rt := Q } (start N vs) H) :
    FnG P w K mg base (k + 1) f (PySem.W.fnOf nm qual params body scope dV kV doc pm an cdv ct) ps sp where
  len := len
  run := by
    intro A outer s H args us vs Q E hr hg e0 hb r hsp
    have hlen := len vs H Q E hsp
    have KX : K.In s.heap := e0.mod.kin.keeps (fun b o e => (e0.bs b o e).1)
    have lim : s.heap.NoLimit := e0.mod.nolimit.keeps (fun b o e => (e0.bs b o e).1)
    have kinds : ∀ y ∈ ps.zip us, scope.names.lookup y.1 = some .local ∨ (scope.names.lookup y.1 = some .cell ∧ ((cellsFrom (s.heap.objs.size + 1) scope.names []).lookup y.1).isSome = true) := by
      rintro ⟨n, v⟩ hy
      rcases S.par n (List.of_mem_zip hy).1 with z | z
      · exact Or.inl z
      · exact Or.inr ⟨z, PySem.W.cellsFrom_some _ _ _ (Or.inl z)⟩
    refine codeAny_call_function hr.depth (KX _ _ lk) rfl S.co S.gen rfl (PySem.W.codeRec_of KX hcd) (hb _ _ _ _ ?_)
    refine wpAny_newFunctionEnv_cells S.kind kinds fun env he s1 x => ?_
    subst he
    refine ⟨lim.keeps x.toInCall.keep, codeAny_func ?_⟩
    obtain ⟨t, ht, hq⟩ := hbody A outer s H vs Q E (hr.deeper _) hg hsp
    have I0 : Inv (cxOf (L2.CX P w) P w K mg base N qual scope f cdv A outer s H E) [] (start N vs) H s1 := inv_start S hr.hd e0 hlen r x
    refine wpAny_mono (ht.run [] s1 (start N vs) H _ I0 hq) (fun fl s' hs => ?_) (fun e s' hs => hs)
    match fl, hs with
    | .ret u, ⟨v, σ', H', J, rv, q⟩ => exact ⟨v, H', J.os, J.bare, J.base, J.hok, rv, q⟩
    | .next, ⟨σ', H', J, q⟩ => exact ⟨V.non, H', J.os, J.bare, J.base, J.hok, rfl, q⟩
    | .brk, ⟨_, _, _, q⟩ => exact q.elim
    | .cont, ⟨_, _, _, q⟩ => exact q.elim
/-- the meaning of a def by the meaning of its body: n slots -/
def mOf (n : Nat) (g : FS) : MF := fun ss c => match g (ss ++ List.replicate (n - ss.length) .un) c with
  | .ok (.nx _) c' => .ok .none c'
  | .ok (.rt d) c' => .ok d c'
  | .ok (.bk _) _ => .no
  | .ok (.ct _) _ => .no
  | .ex x c' => .ex x c'
  | .no => .no
theorem start_get {N : List Str} {vs : List V} {i : Nat} {o : Option V} (h : (start N vs)[i]? = some o) : o = vs[i]? := by
  unfold start at h
  by_cases hi : i < vs.length
  · rw [List.getElem?_append_left (by simpa using hi), List.getElem?_map, List.getElem?_eq_getElem hi] at h
    rw [List.getElem?_eq_getElem hi]
    cases h
    rfl
  · rw [List.getElem?_append_right (by simpa using hi), List.getElem?_replicate] at h
    rw [List.getElem?_eq_none (by omega)]
    split at h <;> cases h
    rfl
theorem sta_start {B H : Hp} {N : List Str} {vs : List V} {ss : List Sl} {c : Int} {W : WX} (hn : vs.length ≤ N.length) (sb : Same B H) (hc : CelOk C H c) (hB : ∀ a, C = some a → B a = none) (h : ArA K C B vs ss) :
    Sta ⟨K, C, B, H, xt, W, none, N.length⟩ B H (start N vs) (ss ++ List.replicate (N.length - ss.length) .un) c where
  sub := sb
  ext := Same.refl _
  new := fun a q => .inl q
  keep := fun a o e _ => e
  cel := fun a e => ⟨hc a e, hB a e, fun z => by have z' : H a = none := z; rw [hc a e] at z'; cases z'⟩
  len := by
    unfold start
    rw [List.length_append, List.length_append, List.length_map, List.length_replicate, List.length_replicate, h.len]
  ln := by
    unfold start
    rw [List.length_append, List.length_map, List.length_replicate]
    show vs.length + (N.length - vs.length) = N.length
    omega
  slot := fun i s e => by
    have hl := h.len
    have hi : i < (start N vs).length := by
      have := (List.getElem?_eq_some_iff.mp e).1
      rw [List.length_append, List.length_replicate] at this
      unfold start
      rw [List.length_append, List.length_map, List.length_replicate]
      omega
    refine ⟨_, List.getElem?_eq_getElem hi, ?_⟩
    rw [start_get (List.getElem?_eq_getElem hi)]
    by_cases hs : i < ss.length
    · rw [List.getElem?_append_left hs] at e
      have key : ∀ {vs : List V} {ss : List Sl}, ArA K C B vs ss → ∀ {i : Nat}, ss[i]? = some s → ∃ v, vs[i]? = some v ∧ ArOk K C B v s := by
        intro vs ss h
        induction h with
        | nil => intro i e; simp at e
        | cons h t ih =>
          intro i e
          cases i with
          | zero => simp at e; subst e; exact ⟨_, rfl, h⟩
          | succ i => simpa using ih (by simpa using e)
      obtain ⟨v, e1, k⟩ := key h e
      rw [e1]
      cases s with
      | un => exact k.elim
      | dt d => exact ⟨v, rfl, k⟩
      | ow ds => exact k.elim
      | ce => obtain ⟨a, k1, k2⟩ := k; subst k2; exact ⟨a, k1, rfl⟩
      | xn x => exact k.elim
      | sc ns => obtain ⟨a, k1, k2⟩ := k; subst k1; exact ⟨a, rfl, k2⟩
    · rw [List.getElem?_append_right (by omega), List.getElem?_replicate] at e
      split at e
      · cases e; trivial
      · cases e
  apart := fun i j a ds es e1 _ _ _ => by
    exfalso
    by_cases hs : i < ss.length
    · rw [List.getElem?_append_left hs] at e1
      have bad : ∀ {vs : List V} {ss : List Sl}, ArA K C B vs ss → ∀ {i : Nat}, ss[i]? = some (.ow ds) → False := by
        intro vs ss h
        induction h with
        | nil => intro i e; simp at e
        | cons h t ih =>
          intro i e
          cases i with
          | zero => simp at e; subst e; exact h
          | succ i => exact ih (by simpa using e)
      exact bad h e1
    · rw [List.getElem?_append_right (by omega), List.getElem?_replicate] at e1
      split at e1 <;> cases e1
/-- THE RULE of a def: its body's derivation -/
theorem fng_of {x qual : Str} {st : Stmt} {f : Addr} {fd : FuncData} {N ps : List Str} {k : Nat} {g : FS} (F : Fun K x qual st f fd) (S : FnScope N ps (defScope st))
    (body : ∀ (cdv : Value) (A : Around) (outer : List Env) (s : Shared) (H : Hp) (E : XK) (B : Hp),
      Cz (cxOf (L2.CX P w) P w K mg base N qual (defScope st) f cdv A outer s H E) ⟨K, C, B, H, xt, fun cls d _ H' => E cls d H', none, N.length⟩ k →
      PSs (cxOf (L2.CX P w) P w K mg base N qual (defScope st) f cdv A outer s H E) (defBody st) (dS ⟨K, C, B, H, xt, fun cls d _ H' => E cls d H', none, N.length⟩ g)) :
    FnG P w K mg base (k + 1) f fd ps (spD K C xt ps.length (mOf N.length g)) := by
  obtain ⟨oc, od, kV, doc, pm, an, cdv, ct, osl, rfl, lk, hcd⟩ := F.ex
  refine fnG_of lk hcd S (fun vs H Q E h => h.1) fun A outer s H vs Q E hr hg hsp => ?_
  obtain ⟨hl, B, ss, c, sb, hc, hB, ha, post⟩ := hsp
  have Z : Cz (cxOf (L2.CX P w) P w K mg base N qual (defScope st) f cdv A outer s H E) ⟨K, C, B, H, xt, fun cls d _ H' => E cls d H', none, N.length⟩ k :=
    ⟨rfl, hr, hg, rfl, S.nd, takes_of rfl rfl rfl rfl, passes_of rfl⟩
  have hpl : ps.length ≤ N.length := by have := congrArg List.length S.pre; rw [List.length_take] at this; omega
  refine ⟨_, body cdv A outer s H E B Z, B, _, c, sta_start (by omega) sb hc hB ha, ?_⟩
  unfold mOf at post
  have out : ∀ {B' H' : Hp} {σ' : St} {ρ' : En} {c' : Int}, Sta ⟨K, C, B, H, xt, fun cls d _ H' => E cls d H', none, N.length⟩ B' H' σ' ρ' c' → Gr C B H B' H' ∧ CelOk C H' c' := fun {B' H' σ' ρ' c'} S' =>
    ⟨⟨S'.ext, S'.sub, S'.new, S'.keep⟩, fun a e => (S'.cel a e).1⟩
  generalize hr' : g (ss ++ List.replicate (N.length - ss.length) .un) c = r at post
  match r, post with
  | .ok (.nx _) c', post => exact fun σ' B' H' S' s' => post .non B' H' (out S').1 (out S').2 .non
  | .ok (.rt d) c', post => exact fun v σ' ρ' B' H' S' s' r' => post v B' H' (out S').1 (out S').2 r'
  | .ex x c', post => exact fun σ' ρ' B' H' cls d S' s' e' => post B' H' cls d (out S').1 (out S').2 e'
  | .no, post => exact post.elim
  | .ok (.bk _) _, post => exact post.elim
  | .ok (.ct _) _, post => exact post.elim
theorem kn_of {x qual : Str} {st : Stmt} {f : Addr} {fd : FuncData} {N ps : List Str} {k : Nat} {g : FS} (F : Fun K x qual st f fd) (hm : mg x = some (.ref f)) (hb : Binds K fd ps []) (S : FnScope N ps (defScope st))
    (body : ∀ (cdv : Value) (A : Around) (outer : List Env) (s : Shared) (H : Hp) (E : XK) (B : Hp),
      Cz (cxOf (L2.CX P w) P w K mg base N qual (defScope st) f cdv A outer s H E) ⟨K, C, B, H, xt, fun cls d _ H' => E cls d H', none, N.length⟩ k →
      PSs (cxOf (L2.CX P w) P w K mg base N qual (defScope st) f cdv A outer s H E) (defBody st) (dS ⟨K, C, B, H, xt, fun cls d _ H' => E cls d H', none, N.length⟩ g)) :
    Kn P w K mg base C xt x (k + 1) ps.length (mOf N.length g) := ⟨f, fd, ps, rfl, hm, F.kp, hb, fng_of F S body⟩
end
end DL
end L2

set_option Elab.async false
set_option linter.all false
set_option maxRecDepth 100000
set_option maxHeartbeats 1000000
/-! The program's own errors: class X over AwryError over ValueError, whose __init__ (its own or its base's) says super().__init__(nm); self.nm = nm. -/
namespace PySem
namespace AwX
open PySem.W PySem.Calls PyProof.Rows PySem.HandSPX
def iA (nm : Str) (p1 p2 : Pos) : Arguments := { posonlyargs := [], args := [{ arg := "self", annotation := .none, pos := p1 }, { arg := nm, annotation := .none, pos := p2 }], vararg := .none, kwonlyargs := [], kw_defaults := [], kwarg := .none, defaults := [] }
def iB (nm : Str) (p0 p1 p2 p3 p4 p5 q1 q2 q3 q4 : Pos) : List Stmt :=
  [.Expr (.Call (.Attribute (.Call (.Name "super" p0) [] [] p1) "__init__" p2) [.Name nm p3] [] p4) p5, .Assign [.Attribute (.Name "self" q1) nm q2] (.Name nm q3) q4]
def iS (nm : Str) : Scope := { kind := .function, names := [(PySem.Str.ofString "self", .local), (nm, .local), (PySem.Str.ofString "__class__", .free), (PySem.Str.ofString "super", .globalImplicit)], isGenerator := false, isCoroutine := false, more := [] }
/-- what the written part says of X at C, of the __init__ at fI that class D says, of D's cell cc -/
structure XTxt (prog : Program) (K : Frag) (mg : Str → Option Value) (x : Str) (C fI : Addr) (nm : Str) : Prop where
  gC : mg x = some (.ref C)
  cls : ∃ nm' q N bs bm sn sub ab col dd k0 k1 k2 k3 k5, K.lookup C = some (excClassObj nm' q C N bs bm true sn sub ab col dd k0 k1 k2 k3 k5 "ValueError.__new__") ∧ refsVE bm = true
  sa : findIn K (.ref C) "__setattr__" = some (some (.builtin "object.__setattr__"))
  ga : findIn K (.ref C) "__getattribute__" = some (some (.builtin "BaseException.__getattribute__"))
  gg : findIn K (.ref C) "__getattr__" = some none
  noN : findIn K (.ref C) nm = some none
  iC : findIn K (.ref C) "__init__" = some (some (.ref fI))
  tC : typeIn K (.ref fI) = some (.type "function")
  kC : keepIn K (.ref C) = true
  exC : subIn K (.ref C) (.type "BaseException") = some true
  tyC : typeIn K (.ref C) = some (.type "type")
  hdC : hasDictIn K C = true
  veC : subIn K (.ref C) (.type "ValueError") = some true
  tp : nsIn K cStatics "thirdparty.any" = some none
  sup : mg "super" = none
  top : (prog.main.scope.names.lookup ("super" : Str)).isSome = false
  fn : ∃ (oc : Value) (od : Option Addr) (qual : Str) (doc pm : Value) (an : Option Addr) (cda cc D : Addr) (ct : Value) (osl : Array (Option Value)) (p1 p2 r0 r1 r2 r3 r4 r5 q1 q2 q3 q4 : Pos) (vs : Array Value) (file : Str) (tf : Tok) (ccl cl : Value) (cdd cld : Option Addr) (ccs csl : Array (Option Value)) (cdD : ClassData),
    K.lookup fI = some ⟨oc, od, .func (fnX "__init__" qual (iA nm p1 p2) (iB nm r0 r1 r2 r3 r4 r5 q1 q2 q3 q4) (iS nm) [("__class__", cc)] .none .none doc pm an (.ref cda) ct), osl⟩ ∧ codeIn K (.ref cda) qual = true ∧
    K.lookup cda = some ⟨ccl, cdd, .fields vs, ccs⟩ ∧ vs[2]? = some (.str file tf) ∧ ((prog.main.file : Str) == file) = true ∧
    K.lookup cc = some ⟨cl, cld, .cell (some (.ref D)), csl⟩ ∧ clsIn K D = some cdD ∧ mroIn K C (.ref D) = some true ∧ ks_superIn K C D "__init__" = some (some (.builtin "ValueError.__init__")) ∧ (r2.endLine == r4.line) = true
/-- the name of the field, as the scope finds it -/
structure NmOk (nm : Str) : Prop where
  a : (iS nm).names.lookup nm = some .local
  b : (iS nm).names.lookup ("super" : Str) = some .globalImplicit
  c : (iS nm).names.lookup ("__class__" : Str) = some .free
  d : (nm == ("__debug__" : Str)) = false
  e : ((PySem.Str.ofString "self" : Str) == nm) = false
  bind : ∀ (qual : Str) (body : List Stmt) (doc pm cdv ct : Value) (an : Option Addr) (cc : Addr) (p1 p2 : Pos) (a b : Value),
    bindArgs (fnX "__init__" qual (iA nm p1 p2) body (iS nm) [("__class__", cc)] .none .none doc pm an cdv ct) ⟨[a, b], []⟩ = pure [((PySem.Str.ofString "self" : Str), a), (nm, b)]
theorem nm_reason : NmOk "reason" := ⟨rfl, rfl, rfl, by decide, by decide, fun _ _ _ _ _ _ _ _ _ _ _ _ => by first | rfl | with_unfolding_all rfl⟩
theorem nm_at : NmOk "at" := ⟨rfl, rfl, rfl, by decide, by decide, fun _ _ _ _ _ _ _ _ _ _ _ _ => by first | rfl | with_unfolding_all rfl⟩
theorem nm_line : NmOk "line" := ⟨rfl, rfl, rfl, by decide, by decide, fun _ _ _ _ _ _ _ _ _ _ _ _ => by first | rfl | with_unfolding_all rfl⟩
structure InitEnd (h h' : Heap) (x C dx t1 : Addr) (nm : Str) (v : Value) : Prop where
  keep : ∀ b o, b ≠ x → h.get? b = some o → h'.get? b = some o
  obj : h'.get? x = some { cls := .ref C, dict := some dx, data := .fields #[.ref t1, .none, .none, .none, .bool false, .none] }
  dbig : h.objs.size ≤ dx
  dne : dx ≠ x
  ns : h'.Ns1 dx (fun y => if y = nm then some v else none)
section
variable {prog : Program} {w : World} {A : Around} {E : Value → Shared → Prop} {R : Result → Shared → Prop} {s : Shared} {K : Frag} {mg : Str → Option Value} {x : Str} {C fI : Addr} {nm : Str}
/-- the bound ValueError.__init__ is called: the args are laid anew -/
theorem mw_call {h : Heap} {g : Array GenState} {d : Drawn} {t : Nat} {os : OsState} {u e t0 : Addr} {rest : List Value} {Q : Value → Shared → Prop} {nm' q : Str} {N : Addr} {bs bm : List Value} {hdct : Bool} {sn : List Str} {sub : List Value} {ab : Bool} {col : Option Bool} {dd : Option Addr} {k0 k1 k2 k3 k5 : Option Value}
    (hC : h.get? C = some (excClassObj nm' q C N bs bm hdct sn sub ab col dd k0 k1 k2 k3 k5 "ValueError.__new__")) (he : h.get? e = some (excO C t0)) (hu : h.get? u = some (kxs_mw "ValueError.__init__" e)) (hz : rest.length ≤ sizeLine)
    (hq : ∀ h', (∀ b o, b ≠ e → h.get? b = some o → h'.get? b = some o) → h'.get? e = some (excO C h.objs.size) → Q .none ⟨h', g, d, t, os⟩) : wpAny (model prog w) A (call (.ref u) rest) Q E ⟨h, g, d, t, os⟩ := by
  refine wpAny_call (codeAny_of_tree (show wpAny _ A.in1 (callAny (.ref u) _) _ _ _ from ?_))
  simp only [callAny]
  refine wpAny_bind (wpAny_load hu (?_ : wpAny _ _ _ _ _ _))
  rw [show (kxs_mw "ValueError.__init__" e).cls = Value.type "method-wrapper" from rfl]
  simp only [show ((Value.type "method-wrapper" == .type "method") || (Value.type "method-wrapper" == .type "builtin_function_or_method") || (Value.type "method-wrapper" == .type "method-wrapper")) = true by decide, if_true]
  refine KFB.if_so (by decide) ?_
  refine wpAny_bind (check_bound_init (PySem.F.excBase_ValueError).toExcCallFacts hC he rfl ?_)
  refine wpAny_bind (wpAny_pure (wpAny_pure (⟨plainId_quiet (PySem.F.excBase_ValueError).init.plain _, codeAny_builtin (PySem.F.excBase_ValueError).initEntry ?_⟩)))
  exact exc_init_tree (cls := .ref C) (dv := none) (c2 := .none) (c3 := .none) (b4 := .bool false) he hz fun h' k e' _ => hq h' k e'
/-- o.m(e) on one line: how it is evaluated -/
theorem eval_meth1 {env : Env} {o e : Expr} {name : Str} {ap cp : Pos} (hl : (ap.endLine == cp.line) = true) (he : starEach [e] env = [(false, eval e env)]) : eval (.Call (.Attribute o name ap) [e] [] cp) env = (do
      let ov ← attributeBase o name env (eval o env)
      standAt ap.atName
      let (f, first) ← holding [ov] (getMethod ov name (do return (← importBound o env).getD true))
      callWith cp f first (backTo cp (starEach [e] env)) []) := by
  rw [arm_eval_Call]
  have hp : methodCallPos true o env ap cp = pure cp := by unfold methodCallPos; simp [hl]
  have hf : methodCallForm ([e].length + ([] : List Keyword).length) (backTo cp (starEach [e] env)) (backToKw cp (keywordEach [] env)) = true := by rw [he]; rfl
  unfold methodCall
  rw [hf, hp]
  simp only [calleeOf, if_true, pure_bind]
  rfl
theorem ax_init (T : XTxt prog K mg x C fI nm) (hn : NmOk nm) {e t0 : Addr} {v : Value} (X : K.In s.heap) (hlim : s.heap.NoLimit) (hG : s.heap.Ns mainGlobals mg) (hB : ∃ mb, s.heap.Ns builtinsNs mb ∧ mb "super" = bootBuiltins "super")
    (hx : s.heap.get? e = some (excO C t0)) (hnx : K.lookup e = none) (hroom : A.depth < recursionLimit)
    (hq : ∀ h' tk dx t1, InitEnd s.heap h' e C dx t1 nm v → R (.ok (.ret .none)) { s with heap := h', toks := tk }) : codeAny (model prog w) A (.call (.ref fI) ⟨[.ref e, v], []⟩) R s := by
  obtain ⟨oc, od, qual, doc, pm, an, cda, cc, D, ct, osl, p1, p2, r0, r1, r2, r3, r4, r5, q1, q2, q3, q4, vs, file, tf, ccl, cl, cdd, cld, ccs, csl, cdD, f1, f2, f3, f4, f5, f6, f7, f8, f9, f10⟩ := T.fn
  obtain ⟨nm', q, N, bs, bm, sn, sub, ab, col, dd, k0, k1, k2, k3, k5, hC, hbm⟩ := T.cls
  have hcl : clsIn K C = some { name := nm', bases := bs, mro := .ref C :: bm, ns := N, qualname := q, hasDict := true, slotNames := sn, subclasses := sub, abstract := ab, collection := col, hasDel := false } := by unfold clsIn; rw [hC] <;> rfl
  obtain ⟨mb, hB1, hB2⟩ := hB
  have hbind : BindsTo s (fnX "__init__" qual (iA nm p1 p2) (iB nm r0 r1 r2 r3 r4 r5 q1 q2 q3 q4) (iS nm) [("__class__", cc)] .none .none doc pm an (.ref cda) ct) ⟨[.ref e, v], []⟩ [("self", .ref e), (nm, v)] := BindsTo.of_eq (hn.bind _ _ _ _ _ _ _ _ _ _ _ _)
  refine ks_codeAny_call_defAt (body := iB nm r0 r1 r2 r3 r4 r5 q1 q2 q3 q4) hroom (X _ _ f1) rfl hlim (codeRec_of X f2) rfl hbind ?_ ?_ (fun h1 hns hk => ?_) rfl rfl rfl
  · intro y hy
    simp only [iS, List.mem_cons, List.not_mem_nil, or_false] at hy
    rcases hy with rfl | rfl | rfl | rfl <;> (intro z; cases z)
  · intro y hy
    simp only [List.mem_cons, List.not_mem_nil, or_false] at hy
    rcases hy with rfl | rfl
    · rfl
    · exact hn.a
  have k1 : ∀ b o, s.heap.get? b = some o → h1.get? b = some o := hk
  have X1 : K.In h1 := X.keeps k1
  have hx1 := k1 _ _ hx
  have lself : (fun y => List.lookup y (List.reverse [(("self" : Str), Value.ref e), (nm, v)])) "self" = some (.ref e) := by
    simp only [List.reverse_cons, List.reverse_nil, List.nil_append, List.cons_append, List.lookup, hn.e, beq_self_eq_true]
  have lnm : (fun y => List.lookup y (List.reverse [(("self" : Str), Value.ref e), (nm, v)])) nm = some v := by simp [List.lookup]
  have hbD : ∃ oD, h1.get? D = some oD ∧ oD.data = .cls cdD := by
    unfold clsIn at f7
    split at f7
    · rename_i c0 d0 cd0 sl0 ho0
      cases f7
      exact ⟨_, X1 _ _ ho0, rfl⟩
    · cases f7
  obtain ⟨oD, hD1, hD2⟩ := hbD
  refine ks_wpAt_execs_cons (ks_wpAt_Expr_any (ks_wpAt_MethodCall ?_ (eval_meth1 f10 rfl)) rfl rfl)
  refine ks_wpAt_super_base hn.b hn.c (by decide) rfl (X1 _ _ f1) rfl rfl rfl (X1 _ _ f3) rfl f4 f5 T.top ?_
  refine ks_loadName_global rfl hn.b (loadGlobal_builtin (hG.keeps k1) T.sup (hB1.keeps k1) (hB2.trans (by decide +kernel)) ⟨rfl, ?_⟩)
  refine wpAny_loadName_free rfl hn.c rfl ⟨_, X1 _ _ f6, rfl⟩ ?_
  refine wpAny_loadName_local rfl rfl hns lself ?_
  refine ks_wpAny_isType_cls hD1 hD2 ⟨rfl, ?_⟩
  refine ks_wpAny_call_super hD1 hD2 hx1 rfl (fun c z => by cases z) (looks_mroIn X1 f8) (fun h2 e2 k2 => ?_)
  have X2 : K.In h2 := X1.keeps k2
  have hx2 := k2 _ _ hx1
  have hCne : e ≠ C := fun z => by
    have q := X1 _ _ hC
    rw [← z, hx1] at q
    cases q
  have I2 : InstAt h2 e (excO C t0) C none := ⟨hx2, rfl, rfl, trivial⟩
  have hm : Looks (model prog w) h2 (mroOf (.ref C)) (.ref C :: bm) := fun A Q E s k q => wpAny_bind ((looks_clsIn X2 hcl) A _ E s k (wpAny_pure q))
  have hal : alongIn K "__init__" (((Value.ref C :: bm).dropWhile (· != .ref D)).drop 1) = some (some (.builtin "ValueError.__init__")) := by
    have z := f9
    unfold ks_superIn at z
    rw [hcl] at z
    exact z
  refine kxs_getMethod kxs_ValueError e2 (looks_opaque X2 T.tp) hm rfl X2 hal (I2.type.andThen (looks_subIn X2 T.veC)) hCne (by decide) ?_
  have k3 : ∀ b o, h2.get? b = some o → (h2.push (kxs_mw "ValueError.__init__" e)).get? b = some o := fun b o z => Heap.get?_push_of_some _ z
  refine kxs_callWith (i := "ValueError.__init__") (x := e) rfl (evalArgs_plain ?_)
  show wpAny _ _ (spliced [(false, eval (.Name nm r3) _)]) _ _ _
  have k13 : ∀ b o, h1.get? b = some o → (h2.push (kxs_mw "ValueError.__init__" e)).get? b = some o := fun b o z => k3 b o (k2 b o z)
  refine Calls.spliced_cons (wpAny_Name (wpAny_loadName_local rfl hn.a (hns.keeps k13) lnm ?_) hn.d)
  refine Calls.spliced_nil ⟨Heap.get?_push_size _ rfl, ?_⟩
  have X3 : K.In (h2.push (kxs_mw "ValueError.__init__" e)) := X2.keeps k3
  refine mw_call (X3 _ _ hC) (k3 _ _ hx2) (Heap.get?_push_size _ rfl) (by show 1 ≤ sizeLine; rw [sizeLine_eq]; decide) (fun h4 k4 e4 => ?_)
  -- self.nm = nm
  have k04 : ∀ b o, b ≠ e → s.heap.get? b = some o → h4.get? b = some o := fun b o hb z => k4 b o hb (k3 b o (k2 b o (k1 b o z)))
  have eL : s.heap.objs.size ≠ e := Nat.ne_of_gt (Heap.lt_size hx)
  have X4 : K.In h4 := fun a o z => k04 a o (fun y => by rw [y, hnx] at z; cases z) (X a o z)
  obtain ⟨oL, esL, epL, hL, restL⟩ := hns
  have hns4 : h4.Ns s.heap.objs.size (fun x => List.lookup x [(PySem.Str.ofString "self", Value.ref e), (nm, v)].reverse) := ⟨oL, esL, epL, k4 _ _ eL (k13 _ _ hL), restL⟩
  refine wpAt_of_wpAny ?_
  refine wpAny_execs_cons (plainObj_wpAny_Assign_Attribute ?_ rfl)
  refine wpAny_Name (wpAny_loadName_local rfl hn.a hns4 lnm ?_) hn.d
  refine wpAny_Name (wpAny_loadName_local rfl rfl hns4 lself ?_) (by decide)
  have I4 : InstAt h4 e (excO C (h2.push (kxs_mw "ValueError.__init__" e)).objs.size) C none := ⟨e4, rfl, rfl, trivial⟩
  refine set_plain X4 I4 T.sa ?_
  refine exc_osa X4 e4 hcl (show refsVE (.ref C :: bm) = true from hbm) rfl T.noN (fun h5 tk5 dx k5 dn dne e5 n5 => ?_)
  have big : s.heap.objs.size ≤ h4.objs.size := by
    exact Nat.le_of_lt (Heap.lt_size (k4 _ _ eL (k13 _ _ hL)))
  refine wpAny_execs_nil (hq h5 tk5 dx _ ⟨fun b o hb z => k5 b o hb (k04 b o hb z), e5, Nat.le_trans big dn, dne, n5⟩)
/-- X(v) made -/
structure Made1 (h h' : Heap) (e C d : Addr) (nm : Str) (v : Value) : Prop where
  keep : ∀ b o, h.get? b = some o → h'.get? b = some o
  new : h.objs.size ≤ e
  obj : ∃ oe vs, h'.get? e = some oe ∧ oe.cls = .ref C ∧ oe.dict = some d ∧ oe.data = .fields vs ∧ vs[1]? = some .none
  dbig : h.objs.size ≤ d
  dne : d ≠ e
  ns : h'.Ns1 d (fun y => if y = nm then some v else none)
theorem ax_made (T : XTxt prog K mg x C fI nm) (hn : NmOk nm) {v : Value} (X : K.In s.heap) (hlim : s.heap.NoLimit) (hG : s.heap.Ns mainGlobals mg) (hB : ∃ mb, s.heap.Ns builtinsNs mb ∧ mb "super" = bootBuiltins "super") (hroom : A.depth + 1 < recursionLimit)
    (hq : ∀ h' tk e d, Made1 s.heap h' e C d nm v → R (.ok (.ret (.ref e))) { s with heap := h', toks := tk }) : codeAny (model prog w) A (.call (.ref C) ⟨[v], []⟩) R s := by
  obtain ⟨nm', q, N, bs, bm, sn, sub, ab, col, dd, k0, k1, k2, k3, k5, hC, hbm⟩ := T.cls
  obtain ⟨hp, g, dr, tk, os⟩ := s
  have kp : ∀ b o, hp.get? b = some o → ((hp.push (kdv_tup [v])).push (excO C hp.objs.size)).get? b = some o := fun b o e => Heap.get?_push_of_some _ (Heap.get?_push_of_some _ e)
  have he : ((hp.push (kdv_tup [v])).push (excO C hp.objs.size)).get? (hp.objs.size + 1) = some (excO C hp.objs.size) := by heap_get
  have hnx : K.lookup (hp.objs.size + 1) = none := by
    cases z : K.lookup (hp.objs.size + 1) with
    | none => rfl
    | some o =>
      have y := Heap.lt_size (show hp.get? (hp.objs.size + 1) = some o from X _ _ z)
      exact absurd (Nat.lt_of_succ_lt y) (Nat.lt_irrefl _)
  obtain ⟨mb, hB1, hB2⟩ := hB
  refine call_own PySem.F.excBase_ValueError (fun Y => refsVE_contains Y bm hbm) (X _ _ hC) (looks_findIn X T.iC) (fun self => bind_fn X self T.tC) (by show 1 ≤ sizeLine; rw [sizeLine_eq]; decide) ?_
  refine ax_init (s := ⟨(hp.push (kdv_tup [v])).push (excO C hp.objs.size), g, dr, tk, os⟩) T hn (X.keeps kp) (hlim.keeps kp) (hG.keeps kp) ⟨mb, hB1.keeps kp, hB2⟩ he hnx (show A.depth + 1 < recursionLimit from hroom) fun h' tk' dx t1 M => ?_
  have z : hp.objs.size + 1 + 1 ≤ dx := by
    first
      | (simpa only [Heap.size_push] using M.dbig)
      | exact M.dbig
  exact ⟨rfl, hq h' tk' (hp.objs.size + 1) dx ⟨fun b o e => M.keep b o (Nat.ne_of_lt (Nat.lt_succ_of_lt (Heap.lt_size e))) (kp b o e), Nat.le_succ _, ⟨_, _, M.obj, rfl, rfl, rfl, rfl⟩, Nat.le_trans (Nat.le_trans (Nat.le_succ _) (Nat.le_succ _)) z, M.dne, M.ns⟩⟩
end
end AwX
end PySem
namespace L2
open PySem PySem.Spec PyProof.Rows
namespace DL
section
variable {X : Cx} {p : Par} {C fI : Addr} {x nm : Str} {a : Expr} {pp pos pos2 : Pos} {f : FE} {k n : Nat}
theorem relO_1 {v : V} {v' : Value} (r : RelV v v') (nm g : Str) : RelO (List.lookup g [(nm, v)]) (if g = nm then some v' else none) := by
  by_cases hw : g = nm
  · subst hw
    simp only [List.lookup, beq_self_eq_true, if_true]
    exact r
  · have qw : (g == nm) = false := by simpa using hw
    simp only [List.lookup, qw, if_neg hw]
    trivial
def tMk (C : Addr) (nm : Str) (ta : TA) : St → Hp → XK → Prop := fun σ H Q => ta σ H fun vs H1 => ∃ v, vs = [v] ∧ ∀ d, H1 d = none → Q (.ref C) (some d) (upd H1 d (.xd [(nm, v)]))
theorem pmk_x (T : PySem.AwX.XTxt X.prog X.K X.mg x C fI nm) (hn : PySem.AwX.NmOk nm) (hr : Room k X.A) {ta : TA} (ha : PA X [a] ta) (hg : Gl X x) (hdb : (x == ("__debug__" : Str)) = false)
    (he : starEach (a :: []) X.env = (false, eval a X.env) :: starEach [] X.env) (hpl : (backTo pos (starEach [] X.env)).any (·.1) = false) : PMk X (.Call (.Name x pp) [a] [] pos) (tMk C nm ta) := by
  intro pins s σ H Q I h
  refine wpAny_Call_Name_kw (ld_glob I hg T.gC ?_ hdb)
  refine PySem.W.callWith_K (h₀ := X.base) I.ok.mod.kin T.kC (thn (ha.run pos pins s σ H _ I h) fun us s1 hz => ?_) he hpl
  obtain ⟨vs, H1, I1, r1, v, ev, q1⟩ := hz
  subst ev
  refine ⟨I1.kIn, ?_⟩
  obtain ⟨u, rfl, ru⟩ := vals1 r1
  have lim := I1.nolimit
  have gG : s1.heap.Ns mainGlobals X.mg := I1.mod.glob.keeps I1.bk
  have gB : ∃ mb, s1.heap.Ns builtinsNs mb ∧ mb "super" = bootBuiltins "super" := by
    obtain ⟨mb, y1, y2⟩ := I1.mod.blt
    exact ⟨mb, y1.keeps I1.bk, y2 _ (by decide)⟩
  obtain ⟨hp, g, dr, tk, os⟩ := s1
  refine wpAny_call (PySem.AwX.ax_made (s := ⟨hp, g, dr, tk, os⟩) T hn I1.kIn lim gG gB (by have := hr.dp; omega) fun h' tk' e d M => ?_)
  show MkP X pins σ Q (.ref e) ⟨h', g, dr, tk', os⟩
  obtain ⟨oe, fv, hoe, hc, hd, hdat, hx1⟩ := M.obj
  -- the state without the exception's own object
  obtain ⟨G', g1, g2⟩ := restrict h' fun b => decide (b ≠ e)
  have gk : ∀ b, b ≠ e → G'.get? b = h'.get? b := fun b hb => g1 b (by simpa using hb)
  have ge : G'.get? e = none := g2 e (by simp)
  have old : ∀ b o, hp.get? b = some o → G'.get? b = some o := fun b o q => by
    rw [gk b (Nat.ne_of_lt (Nat.lt_of_lt_of_le (Heap.lt_size q) M.new))]
    exact M.keep b o q
  have ob : ObjOk X.prog X.w (upd H1 d (.xd [(nm, v)])) G' d (.xd [(nm, v)]) := ⟨_, M.ns.at (fun o q => (gk d M.dne).trans q), fun f => relO_1 ru nm f⟩
  have J : Inv X pins σ (upd H1 d (.xd [(nm, v)])) ⟨G', g, dr, tk', os⟩ := I1.laid (t' := tk') old M.dbig ob
  refine ⟨e, oe, fv, ⟨G', g, dr, tk', os⟩, _, .ref C, some d, rfl, J, fun b o q => ?_, ge, hoe, ⟨hc, hd⟩, hdat, hx1, ?_, rfl, I1.bare, raises_own T.exC T.tyC, q1 d (I1.hok.fresh M.dbig)⟩
  · have q' : G'.get? b = some o := q
    by_cases hb : b = e
    · rw [hb, ge] at q'; cases q'
    · show h'.get? b = some o
      rw [← gk b hb]
      exact q'
  · rw [upd_ne (Ne.symm M.dne)]
    exact I1.hok.fresh M.new
/-- raise X(e) -/
def sRaise (n : Nat) (f : FE) : FS := fun ρ c => (f ρ c).bind fun d c1 => .ex ⟨n, [d]⟩ c1
theorem ds_raise (Z : Cz X p k) (T : PySem.AwX.XTxt X.prog X.K X.mg x C fI nm) (hn : PySem.AwX.NmOk nm) (hx : p.xt[n]? = some ⟨C, [nm]⟩) (ha : PE X a (dE p f)) (hg : Gl X x) (hdb : (x == ("__debug__" : Str)) = false := by decide)
    (he : starEach (a :: []) X.env = (false, eval a X.env) :: starEach [] X.env := by rfl) (hpl : (backTo pos (starEach [] X.env)).any (·.1) = false := by rfl) : PS X (.Raise (some (.Call (.Name x pp) [a] [] pos)) none pos2) (dS p (sRaise n f)) :=
  (ps_raise Z.calm Z.tk (pmk_x T hn Z.room (pa_cons ha pa_nil he) hg hdb he hpl)).imp fun D σ H ⟨B, ρ, c, S, m⟩ =>
    ⟨B, ρ, c, S, PostS.bE m fun d c1 v B1 H1 S1 r1 s1 m1 => ⟨v, rfl, fun dd nd => m1 σ ρ B1 _ _ _ (S1.grow (Gw.held S1.sub _ nd)) (Same.refl _) ⟨C, [nm], dd, [v], hx, rfl, rfl, upd_same, .cons r1 .nil, rfl⟩⟩⟩
end
end DL
end L2

set_option Elab.async false
set_option linter.all false
set_option maxRecDepth 100000
set_option maxHeartbeats 1000000
/-! The error class with two fields: super().__init__(number, reason); self.number = number; self.reason = reason. -/
namespace PySem
namespace AwX
open PySem.W PySem.Calls PyProof.Rows PySem.HandSPX
def jA (p1 p2 p3 : Pos) : Arguments := { posonlyargs := [], args := [{ arg := "self", annotation := .none, pos := p1 }, { arg := "number", annotation := .none, pos := p2 }, { arg := "reason", annotation := .none, pos := p3 }], vararg := .none, kwonlyargs := [], kw_defaults := [], kwarg := .none, defaults := [] }
def jB (p0 p1 p2 p3 p3' p4 p5 q1 q2 q3 q4 u1 u2 u3 u4 : Pos) : List Stmt :=
  [.Expr (.Call (.Attribute (.Call (.Name "super" p0) [] [] p1) "__init__" p2) [.Name "number" p3, .Name "reason" p3'] [] p4) p5, .Assign [.Attribute (.Name "self" q1) "number" q2] (.Name "number" q3) q4, .Assign [.Attribute (.Name "self" u1) "reason" u2] (.Name "reason" u3) u4]
def jS : Scope := { kind := .function, names := [(PySem.Str.ofString "self", .local), (PySem.Str.ofString "number", .local), (PySem.Str.ofString "reason", .local), (PySem.Str.ofString "__class__", .free), (PySem.Str.ofString "super", .globalImplicit)], isGenerator := false, isCoroutine := false, more := [] }
structure XTxt2 (prog : Program) (K : Frag) (mg : Str → Option Value) (x : Str) (C fI : Addr) : Prop where
  gC : mg x = some (.ref C)
  cls : ∃ nm' q N bs bm sn sub ab col dd k0 k1 k2 k3 k5, K.lookup C = some (excClassObj nm' q C N bs bm true sn sub ab col dd k0 k1 k2 k3 k5 "ValueError.__new__") ∧ refsVE bm = true
  sa : findIn K (.ref C) "__setattr__" = some (some (.builtin "object.__setattr__"))
  ga : findIn K (.ref C) "__getattribute__" = some (some (.builtin "BaseException.__getattribute__"))
  gg : findIn K (.ref C) "__getattr__" = some none
  n1 : findIn K (.ref C) "number" = some none
  n2 : findIn K (.ref C) "reason" = some none
  iC : findIn K (.ref C) "__init__" = some (some (.ref fI))
  tC : typeIn K (.ref fI) = some (.type "function")
  kC : keepIn K (.ref C) = true
  exC : subIn K (.ref C) (.type "BaseException") = some true
  tyC : typeIn K (.ref C) = some (.type "type")
  hdC : hasDictIn K C = true
  veC : subIn K (.ref C) (.type "ValueError") = some true
  tp : nsIn K cStatics "thirdparty.any" = some none
  sup : mg "super" = none
  top : (prog.main.scope.names.lookup ("super" : Str)).isSome = false
  fn : ∃ (oc : Value) (od : Option Addr) (qual : Str) (doc pm : Value) (an : Option Addr) (cda cc D : Addr) (ct : Value) (osl : Array (Option Value)) (p1 p2 p3 r0 r1 r2 r3 r3' r4 r5 q1 q2 q3 q4 u1 u2 u3 u4 : Pos) (vs : Array Value) (file : Str) (tf : Tok) (ccl cl : Value) (cdd cld : Option Addr) (ccs csl : Array (Option Value)) (cdD : ClassData),
    K.lookup fI = some ⟨oc, od, .func (fnX "__init__" qual (jA p1 p2 p3) (jB r0 r1 r2 r3 r3' r4 r5 q1 q2 q3 q4 u1 u2 u3 u4) jS [("__class__", cc)] .none .none doc pm an (.ref cda) ct), osl⟩ ∧ codeIn K (.ref cda) qual = true ∧
    K.lookup cda = some ⟨ccl, cdd, .fields vs, ccs⟩ ∧ vs[2]? = some (.str file tf) ∧ ((prog.main.file : Str) == file) = true ∧
    K.lookup cc = some ⟨cl, cld, .cell (some (.ref D)), csl⟩ ∧ clsIn K D = some cdD ∧ mroIn K C (.ref D) = some true ∧ ks_superIn K C D "__init__" = some (some (.builtin "ValueError.__init__")) ∧ (r2.endLine == r4.line) = true
def m2 (v1 v2 : Value) : Str → Option Value := fun y => if y = "reason" then some v2 else if y = "number" then some v1 else none
structure InitEnd2 (h h' : Heap) (x C dx t1 : Addr) (v1 v2 : Value) : Prop where
  keep : ∀ b o, b ≠ x → h.get? b = some o → h'.get? b = some o
  obj : h'.get? x = some { cls := .ref C, dict := some dx, data := .fields #[.ref t1, .none, .none, .none, .bool false, .none] }
  dbig : h.objs.size ≤ dx
  dne : dx ≠ x
  ns : h'.Ns1 dx (m2 v1 v2)
section
variable {prog : Program} {w : World} {A : Around} {E : Value → Shared → Prop} {R : Result → Shared → Prop} {s : Shared} {K : Frag} {mg : Str → Option Value} {x : Str} {C fI : Addr}
/-- o.m(e, f) on one line: how it is evaluated -/
theorem eval_meth2 {env : Env} {o e e' : Expr} {name : Str} {ap cp : Pos} (hl : (ap.endLine == cp.line) = true) (he : starEach [e, e'] env = [(false, eval e env), (false, eval e' env)]) : eval (.Call (.Attribute o name ap) [e, e'] [] cp) env = (do
      let ov ← attributeBase o name env (eval o env)
      standAt ap.atName
      let (f, first) ← holding [ov] (getMethod ov name (do return (← importBound o env).getD true))
      callWith cp f first (backTo cp (starEach [e, e'] env)) []) := by
  rw [arm_eval_Call]
  have hp : methodCallPos true o env ap cp = pure cp := by unfold methodCallPos; simp [hl]
  have hf : methodCallForm ([e, e'].length + ([] : List Keyword).length) (backTo cp (starEach [e, e'] env)) (backToKw cp (keywordEach [] env)) = true := by rw [he]; rfl
  unfold methodCall
  rw [hf, hp]
  simp only [calleeOf, if_true, pure_bind]
  rfl
theorem ax_init2 (T : XTxt2 prog K mg x C fI) {e t0 : Addr} {v v2 : Value} (X : K.In s.heap) (hlim : s.heap.NoLimit) (hG : s.heap.Ns mainGlobals mg) (hB : ∃ mb, s.heap.Ns builtinsNs mb ∧ mb "super" = bootBuiltins "super")
    (hx : s.heap.get? e = some (excO C t0)) (hnx : K.lookup e = none) (hroom : A.depth < recursionLimit)
    (hq : ∀ h' tk dx t1, InitEnd2 s.heap h' e C dx t1 v v2 → R (.ok (.ret .none)) { s with heap := h', toks := tk }) : codeAny (model prog w) A (.call (.ref fI) ⟨[.ref e, v, v2], []⟩) R s := by
  obtain ⟨oc, od, qual, doc, pm, an, cda, cc, D, ct, osl, p1, p2, p3, r0, r1, r2, r3, r3', r4, r5, q1, q2, q3, q4, u1, u2, u3, u4, vs, file, tf, ccl, cl, cdd, cld, ccs, csl, cdD, f1, f2, f3, f4, f5, f6, f7, f8, f9, f10⟩ := T.fn
  obtain ⟨nm', q, N, bs, bm, sn, sub, ab, col, dd, k0, k1, k2, k3, k5, hC, hbm⟩ := T.cls
  have hcl : clsIn K C = some { name := nm', bases := bs, mro := .ref C :: bm, ns := N, qualname := q, hasDict := true, slotNames := sn, subclasses := sub, abstract := ab, collection := col, hasDel := false } := by unfold clsIn; rw [hC] <;> rfl
  obtain ⟨mb, hB1, hB2⟩ := hB
  have hbind : BindsTo s (fnX "__init__" qual (jA p1 p2 p3) (jB r0 r1 r2 r3 r3' r4 r5 q1 q2 q3 q4 u1 u2 u3 u4) jS [("__class__", cc)] .none .none doc pm an (.ref cda) ct) ⟨[.ref e, v, v2], []⟩ [("self", .ref e), ("number", v), ("reason", v2)] := BindsTo.of_eq (by first | rfl | with_unfolding_all rfl)
  refine ks_codeAny_call_defAt (body := jB r0 r1 r2 r3 r3' r4 r5 q1 q2 q3 q4 u1 u2 u3 u4) hroom (X _ _ f1) rfl hlim (codeRec_of X f2) rfl hbind ?_ ?_ (fun h1 hns hk => ?_) rfl rfl rfl
  · intro y hy
    simp only [jS, List.mem_cons, List.not_mem_nil, or_false] at hy
    rcases hy with rfl | rfl | rfl | rfl | rfl <;> (intro z; cases z)
  · intro y hy
    simp only [List.mem_cons, List.not_mem_nil, or_false] at hy
    rcases hy with rfl | rfl | rfl <;> rfl
  have k1 : ∀ b o, s.heap.get? b = some o → h1.get? b = some o := hk
  have X1 : K.In h1 := X.keeps k1
  have hx1 := k1 _ _ hx
  have lself : (fun y => List.lookup y (List.reverse [(("self" : Str), Value.ref e), ("number", v), ("reason", v2)])) "self" = some (.ref e) := by rfl
  have lnm : (fun y => List.lookup y (List.reverse [(("self" : Str), Value.ref e), ("number", v), ("reason", v2)])) "number" = some v := by rfl
  have lnm2 : (fun y => List.lookup y (List.reverse [(("self" : Str), Value.ref e), ("number", v), ("reason", v2)])) "reason" = some v2 := by rfl
  have hbD : ∃ oD, h1.get? D = some oD ∧ oD.data = .cls cdD := by
    unfold clsIn at f7
    split at f7
    · rename_i c0 d0 cd0 sl0 ho0
      cases f7
      exact ⟨_, X1 _ _ ho0, rfl⟩
    · cases f7
  obtain ⟨oD, hD1, hD2⟩ := hbD
  refine ks_wpAt_execs_cons (ks_wpAt_Expr_any (ks_wpAt_MethodCall ?_ (eval_meth2 f10 rfl)) rfl rfl)
  refine ks_wpAt_super_base rfl rfl (by decide) rfl (X1 _ _ f1) rfl rfl rfl (X1 _ _ f3) rfl f4 f5 T.top ?_
  refine ks_loadName_global rfl rfl (loadGlobal_builtin (hG.keeps k1) T.sup (hB1.keeps k1) (hB2.trans (by decide +kernel)) ⟨rfl, ?_⟩)
  refine wpAny_loadName_free rfl rfl rfl ⟨_, X1 _ _ f6, rfl⟩ ?_
  refine wpAny_loadName_local rfl rfl hns lself ?_
  refine ks_wpAny_isType_cls hD1 hD2 ⟨rfl, ?_⟩
  refine ks_wpAny_call_super hD1 hD2 hx1 rfl (fun c z => by cases z) (looks_mroIn X1 f8) (fun h2 e2 k2 => ?_)
  have X2 : K.In h2 := X1.keeps k2
  have hx2 := k2 _ _ hx1
  have hCne : e ≠ C := fun z => by
    have q := X1 _ _ hC
    rw [← z, hx1] at q
    cases q
  have I2 : InstAt h2 e (excO C t0) C none := ⟨hx2, rfl, rfl, trivial⟩
  have hm : Looks (model prog w) h2 (mroOf (.ref C)) (.ref C :: bm) := fun A Q E s k q => wpAny_bind ((looks_clsIn X2 hcl) A _ E s k (wpAny_pure q))
  have hal : alongIn K "__init__" (((Value.ref C :: bm).dropWhile (· != .ref D)).drop 1) = some (some (.builtin "ValueError.__init__")) := by
    have z := f9
    unfold ks_superIn at z
    rw [hcl] at z
    exact z
  refine kxs_getMethod kxs_ValueError e2 (looks_opaque X2 T.tp) hm rfl X2 hal (I2.type.andThen (looks_subIn X2 T.veC)) hCne (by decide) ?_
  have k3 : ∀ b o, h2.get? b = some o → (h2.push (kxs_mw "ValueError.__init__" e)).get? b = some o := fun b o z => Heap.get?_push_of_some _ z
  refine kxs_callWith (i := "ValueError.__init__") (x := e) rfl (evalArgs_plain ?_)
  show wpAny _ _ (spliced [(false, eval (.Name "number" r3) _), (false, eval (.Name "reason" r3') _)]) _ _ _
  have k13 : ∀ b o, h1.get? b = some o → (h2.push (kxs_mw "ValueError.__init__" e)).get? b = some o := fun b o z => k3 b o (k2 b o z)
  refine Calls.spliced_cons (wpAny_Name (wpAny_loadName_local rfl rfl (hns.keeps k13) lnm ?_) (by decide))
  refine Calls.spliced_cons (wpAny_Name (wpAny_loadName_local rfl rfl (hns.keeps k13) lnm2 ?_) (by decide))
  refine Calls.spliced_nil ⟨Heap.get?_push_size _ rfl, ?_⟩
  have X3 : K.In (h2.push (kxs_mw "ValueError.__init__" e)) := X2.keeps k3
  refine mw_call (X3 _ _ hC) (k3 _ _ hx2) (Heap.get?_push_size _ rfl) (by show 2 ≤ sizeLine; rw [sizeLine_eq]; decide) (fun h4 k4 e4 => ?_)
  -- self.nm = nm
  have k04 : ∀ b o, b ≠ e → s.heap.get? b = some o → h4.get? b = some o := fun b o hb z => k4 b o hb (k3 b o (k2 b o (k1 b o z)))
  have eL : s.heap.objs.size ≠ e := Nat.ne_of_gt (Heap.lt_size hx)
  have X4 : K.In h4 := fun a o z => k04 a o (fun y => by rw [y, hnx] at z; cases z) (X a o z)
  obtain ⟨oL, esL, epL, hL, restL⟩ := hns
  have hns4 : h4.Ns s.heap.objs.size (fun x => List.lookup x [(PySem.Str.ofString "self", Value.ref e), (PySem.Str.ofString "number", v), (PySem.Str.ofString "reason", v2)].reverse) := ⟨oL, esL, epL, k4 _ _ eL (k13 _ _ hL), restL⟩
  refine wpAt_of_wpAny ?_
  refine wpAny_execs_cons (plainObj_wpAny_Assign_Attribute ?_ rfl)
  refine wpAny_Name (wpAny_loadName_local rfl rfl hns4 lnm ?_) (by decide)
  refine wpAny_Name (wpAny_loadName_local rfl rfl hns4 lself ?_) (by decide)
  have I4 : InstAt h4 e (excO C (h2.push (kxs_mw "ValueError.__init__" e)).objs.size) C none := ⟨e4, rfl, rfl, trivial⟩
  refine set_plain X4 I4 T.sa ?_
  refine exc_osa X4 e4 hcl (show refsVE (.ref C :: bm) = true from hbm) rfl T.n1 (fun h5 tk5 dx k5 dn dne e5 n5 => ?_)
  have big : s.heap.objs.size ≤ h4.objs.size := by
    exact Nat.le_of_lt (Heap.lt_size (k4 _ _ eL (k13 _ _ hL)))
  -- self.reason = reason
  have k05 : ∀ b o, b ≠ e → s.heap.get? b = some o → h5.get? b = some o := fun b o hb z => k5 b o hb (k04 b o hb z)
  have X5 : K.In h5 := fun a o z => k05 a o (fun y => by rw [y, hnx] at z; cases z) (X a o z)
  have hns5 : h5.Ns s.heap.objs.size (fun x => List.lookup x [(PySem.Str.ofString "self", Value.ref e), (PySem.Str.ofString "number", v), (PySem.Str.ofString "reason", v2)].reverse) := ⟨oL, esL, epL, k5 _ _ eL (k4 _ _ eL (k13 _ _ hL)), restL⟩
  refine wpAny_execs_cons (plainObj_wpAny_Assign_Attribute ?_ rfl)
  refine wpAny_Name (wpAny_loadName_local rfl rfl hns5 lnm2 ?_) (by decide)
  refine wpAny_Name (wpAny_loadName_local rfl rfl hns5 lself ?_) (by decide)
  have hw : Within (fun y => if y = (PySem.Str.ofString "number") then some v else none) [PySem.Str.ofString "number"] := Within.cons _ v Within.nil
  obtain ⟨oD5, esD5, epD5, hoD5, hdD5, _⟩ := n5.count hw
  have I5 : InstAt h5 e _ C (some oD5) := ⟨e5, rfl, rfl, hoD5⟩
  refine set_plain X5 I5 T.sa ?_
  refine PySem.OEX.osa_old X5 e5 n5 hw (by decide) hcl (show refsVE (.ref C :: bm) = true from hbm) rfl T.n2 (fun h6 tk6 k6 n6 => ?_)
  have e6 := k6 e _ (Ne.symm dne) e5
  exact wpAny_execs_nil (hq h6 tk6 dx _ ⟨fun b o hb z => k6 b o (fun y => absurd (Heap.lt_size z) (by rw [y]; exact Nat.not_lt.mpr (Nat.le_trans big dn))) (k05 b o hb z), e6, Nat.le_trans big dn, dne, n6⟩)
/-- X(v) made -/
structure Made2 (h h' : Heap) (e C d : Addr) (v1 v2 : Value) : Prop where
  keep : ∀ b o, h.get? b = some o → h'.get? b = some o
  new : h.objs.size ≤ e
  obj : ∃ oe vs, h'.get? e = some oe ∧ oe.cls = .ref C ∧ oe.dict = some d ∧ oe.data = .fields vs ∧ vs[1]? = some .none
  dbig : h.objs.size ≤ d
  dne : d ≠ e
  ns : h'.Ns1 d (m2 v1 v2)
theorem ax_made2 (T : XTxt2 prog K mg x C fI) {v v2 : Value} (X : K.In s.heap) (hlim : s.heap.NoLimit) (hG : s.heap.Ns mainGlobals mg) (hB : ∃ mb, s.heap.Ns builtinsNs mb ∧ mb "super" = bootBuiltins "super") (hroom : A.depth + 1 < recursionLimit)
    (hq : ∀ h' tk e d, Made2 s.heap h' e C d v v2 → R (.ok (.ret (.ref e))) { s with heap := h', toks := tk }) : codeAny (model prog w) A (.call (.ref C) ⟨[v, v2], []⟩) R s := by
  obtain ⟨nm', q, N, bs, bm, sn, sub, ab, col, dd, k0, k1, k2, k3, k5, hC, hbm⟩ := T.cls
  obtain ⟨hp, g, dr, tk, os⟩ := s
  have kp : ∀ b o, hp.get? b = some o → ((hp.push (kdv_tup [v, v2])).push (excO C hp.objs.size)).get? b = some o := fun b o e => Heap.get?_push_of_some _ (Heap.get?_push_of_some _ e)
  have he : ((hp.push (kdv_tup [v, v2])).push (excO C hp.objs.size)).get? (hp.objs.size + 1) = some (excO C hp.objs.size) := by heap_get
  have hnx : K.lookup (hp.objs.size + 1) = none := by
    cases z : K.lookup (hp.objs.size + 1) with
    | none => rfl
    | some o =>
      have y := Heap.lt_size (show hp.get? (hp.objs.size + 1) = some o from X _ _ z)
      exact absurd (Nat.lt_of_succ_lt y) (Nat.lt_irrefl _)
  obtain ⟨mb, hB1, hB2⟩ := hB
  refine call_own PySem.F.excBase_ValueError (fun Y => refsVE_contains Y bm hbm) (X _ _ hC) (looks_findIn X T.iC) (fun self => bind_fn X self T.tC) (by show 2 ≤ sizeLine; rw [sizeLine_eq]; decide) ?_
  refine ax_init2 (s := ⟨(hp.push (kdv_tup [v, v2])).push (excO C hp.objs.size), g, dr, tk, os⟩) T (X.keeps kp) (hlim.keeps kp) (hG.keeps kp) ⟨mb, hB1.keeps kp, hB2⟩ he hnx (show A.depth + 1 < recursionLimit from hroom) fun h' tk' dx t1 M => ?_
  have z : hp.objs.size + 1 + 1 ≤ dx := by
    first
      | (simpa only [Heap.size_push] using M.dbig)
      | exact M.dbig
  exact ⟨rfl, hq h' tk' (hp.objs.size + 1) dx ⟨fun b o e => M.keep b o (Nat.ne_of_lt (Nat.lt_succ_of_lt (Heap.lt_size e))) (kp b o e), Nat.le_succ _, ⟨_, _, M.obj, rfl, rfl, rfl, rfl⟩, Nat.le_trans (Nat.le_trans (Nat.le_succ _) (Nat.le_succ _)) z, M.dne, M.ns⟩⟩
end
end AwX
end PySem
namespace L2
open PySem PySem.Spec PyProof.Rows
namespace DL
section
variable {X : Cx} {p : Par} {C fI : Addr} {x : Str} {a b : Expr} {pp pos pos2 : Pos} {f g : FE} {k n : Nat}
theorem relO_2 {v1 v2 : V} {u1 u2 : Value} (r1 : RelV v1 u1) (r2 : RelV v2 u2) (g : Str) : RelO (List.lookup g [((PySem.Str.ofString "number"), v1), ((PySem.Str.ofString "reason"), v2)]) (PySem.AwX.m2 u1 u2 g) := by
  unfold PySem.AwX.m2
  by_cases hr : g = "reason"
  · subst hr
    exact r2
  · rw [if_neg hr]
    by_cases hn : g = "number"
    · subst hn
      exact r1
    · rw [if_neg hn]
      have q1 : (g == (PySem.Str.ofString "number")) = false := by simpa using hn
      have q2 : (g == (PySem.Str.ofString "reason")) = false := by simpa using hr
      simp only [List.lookup, q1, q2]
      trivial
def tMk2 (C : Addr) (ta : TA) : St → Hp → XK → Prop := fun σ H Q => ta σ H fun vs H1 => ∃ v1 v2, vs = [v1, v2] ∧ ∀ d, H1 d = none → Q (.ref C) (some d) (upd H1 d (.xd [((PySem.Str.ofString "number"), v1), ((PySem.Str.ofString "reason"), v2)]))
theorem pmk_x2 (T : PySem.AwX.XTxt2 X.prog X.K X.mg x C fI) (hr : Room k X.A) {ta : TA} (ha : PA X [a, b] ta) (hg : Gl X x) (hdb : (x == ("__debug__" : Str)) = false)
    (he : starEach (a :: [b]) X.env = (false, eval a X.env) :: starEach [b] X.env) (hpl : (backTo pos (starEach [b] X.env)).any (·.1) = false) : PMk X (.Call (.Name x pp) [a, b] [] pos) (tMk2 C ta) := by
  intro pins s σ H Q I h
  refine wpAny_Call_Name_kw (ld_glob I hg T.gC ?_ hdb)
  refine PySem.W.callWith_K (h₀ := X.base) I.ok.mod.kin T.kC (thn (ha.run pos pins s σ H _ I h) fun us s1 hz => ?_) he hpl
  obtain ⟨vs, H1, I1, r1, v, v2, ev, q1⟩ := hz
  subst ev
  refine ⟨I1.kIn, ?_⟩
  obtain ⟨u, u2, rfl, ru, ru2⟩ : ∃ u u2, us = [u, u2] ∧ RelV v u ∧ RelV v2 u2 := by
    cases r1 with
    | cons k1 t1 => cases t1 with
      | cons k2 t2 => cases t2; exact ⟨_, _, rfl, k1, k2⟩
  have lim := I1.nolimit
  have gG : s1.heap.Ns mainGlobals X.mg := I1.mod.glob.keeps I1.bk
  have gB : ∃ mb, s1.heap.Ns builtinsNs mb ∧ mb "super" = bootBuiltins "super" := by
    obtain ⟨mb, y1, y2⟩ := I1.mod.blt
    exact ⟨mb, y1.keeps I1.bk, y2 _ (by decide)⟩
  obtain ⟨hp, g, dr, tk, os⟩ := s1
  refine wpAny_call (PySem.AwX.ax_made2 (s := ⟨hp, g, dr, tk, os⟩) T I1.kIn lim gG gB (by have := hr.dp; omega) fun h' tk' e d M => ?_)
  show MkP X pins σ Q (.ref e) ⟨h', g, dr, tk', os⟩
  obtain ⟨oe, fv, hoe, hc, hd, hdat, hx1⟩ := M.obj
  -- the state without the exception's own object
  obtain ⟨G', g1, g2⟩ := restrict h' fun b => decide (b ≠ e)
  have gk : ∀ b, b ≠ e → G'.get? b = h'.get? b := fun b hb => g1 b (by simpa using hb)
  have ge : G'.get? e = none := g2 e (by simp)
  have old : ∀ b o, hp.get? b = some o → G'.get? b = some o := fun b o q => by
    rw [gk b (Nat.ne_of_lt (Nat.lt_of_lt_of_le (Heap.lt_size q) M.new))]
    exact M.keep b o q
  have ob : ObjOk X.prog X.w (upd H1 d (.xd [((PySem.Str.ofString "number"), v), ((PySem.Str.ofString "reason"), v2)])) G' d (.xd [((PySem.Str.ofString "number"), v), ((PySem.Str.ofString "reason"), v2)]) := ⟨_, M.ns.at (fun o q => (gk d M.dne).trans q), fun f => relO_2 ru ru2 f⟩
  have J : Inv X pins σ (upd H1 d (.xd [((PySem.Str.ofString "number"), v), ((PySem.Str.ofString "reason"), v2)])) ⟨G', g, dr, tk', os⟩ := I1.laid (t' := tk') old M.dbig ob
  refine ⟨e, oe, fv, ⟨G', g, dr, tk', os⟩, _, .ref C, some d, rfl, J, fun b o q => ?_, ge, hoe, ⟨hc, hd⟩, hdat, hx1, ?_, rfl, I1.bare, raises_own T.exC T.tyC, q1 d (I1.hok.fresh M.dbig)⟩
  · have q' : G'.get? b = some o := q
    by_cases hb : b = e
    · rw [hb, ge] at q'; cases q'
    · show h'.get? b = some o
      rw [← gk b hb]
      exact q'
  · rw [upd_ne (Ne.symm M.dne)]
    exact I1.hok.fresh M.new
/-- raise X(e, e') -/
def sRaise2 (n : Nat) (f g : FE) : FS := fun ρ c => (f ρ c).bind fun d c1 => (g ρ c1).bind fun e c2 => .ex ⟨n, [d, e]⟩ c2
theorem ds_raise2 (Z : Cz X p k) (T : PySem.AwX.XTxt2 X.prog X.K X.mg x C fI) (hx : p.xt[n]? = some ⟨C, ["number", "reason"]⟩) (ha : PE X a (dE p f)) (hb : PE X b (dE p g)) (hg : Gl X x) (hdb : (x == ("__debug__" : Str)) = false := by decide)
    (he : starEach (a :: [b]) X.env = (false, eval a X.env) :: starEach [b] X.env := by rfl) (he2 : starEach (b :: []) X.env = (false, eval b X.env) :: starEach [] X.env := by rfl) (hpl : (backTo pos (starEach [b] X.env)).any (·.1) = false := by rfl) : PS X (.Raise (some (.Call (.Name x pp) [a, b] [] pos)) none pos2) (dS p (sRaise2 n f g)) :=
  (ps_raise Z.calm Z.tk (pmk_x2 T Z.room (pa_cons ha (pa_cons hb pa_nil he2) he) hg hdb he hpl)).imp fun D σ H ⟨B, ρ, c, S, m⟩ =>
    ⟨B, ρ, c, S, PostS.bE m fun d c1 v B1 H1 S1 r1 s1 m1 => ⟨B1, ρ, c1, S1, PostS.bE m1 fun e c2 v2 B2 H2 S2 r2 s2 m2 => ⟨v, v2, rfl, fun dd nd => m2 σ ρ B2 _ _ _ (S2.grow (Gw.held S2.sub _ nd)) (Same.refl _) ⟨C, ["number", "reason"], dd, [v, v2], hx, rfl, rfl, upd_same, .cons (r1.mono s2) (.cons r2 .nil), rfl⟩⟩⟩⟩
end
end DL
end L2

set_option Elab.async false
set_option linter.all false
set_option maxRecDepth 100000
set_option maxHeartbeats 1000000
namespace L2
open PySem PySem.Spec PyProof.Rows
namespace DL
/-! ### try .. except, several clauses, with names or without -/
structure HC where
  c : Value
  i : Option Nat
  ts : Addr → Value → Option Addr → TS
/-- the ends of a suite whose name goes behind it -/
def endsAt (i : Nat) (D : Ends) : Ends := { nx := fun σ' H' => D.nx (σ'.set i none) H', rt := D.rt, bk := fun σ' H' => D.bk (σ'.set i none) H', ct := fun σ' H' => D.ct (σ'.set i none) H' }
def wCl (K : PySem.W.Frag) (Wout : WX) (D : Ends) : List HC → WX
  | [] => Wout
  | h :: r => fun cls d σ H => ∃ b, PySem.W.exmOne K cls h.c = some b ∧ (b = true → ∀ a, H a = none → match h.i with
      | none => h.ts a cls d D σ H
      | some i => h.ts a cls d (endsAt i D) (σ.set i (some (.ref a))) H) ∧ (b = false → wCl K Wout D r cls d σ H)
/-- a suite's derivation: for every exception at hand -/
def SuiteOk (X : Cx) (sts : List Stmt) (ts : Addr → Value → Option Addr → TS) : Prop :=
  ∀ (a : Addr) (oe : Obj) (cls : Value) (d : Option Addr) (pn : List (Addr × Obj)), Zc cls d oe → (∃ vs, oe.data = .fields vs) → PSs (X.suite a ((a, oe) :: pn)) sts (ts a cls d)
inductive HsOk (X : Cx) : List ExceptHandler → List HC → Prop
  | nil : HsOk X [] []
  | plain {x : Str} {c : Value} {ts : Addr → Value → Option Addr → TS} {b₀ : Stmt} {suite : List Stmt} {np pos' : Pos} {hds : List ExceptHandler} {l : List HC} (hc : Names X x c) (hsu : SuiteOk X (b₀ :: suite) ts) (r : HsOk X hds l) :
      HsOk X (.ExceptHandler (some (.Name x np)) none (b₀ :: suite) pos' :: hds) (⟨c, none, ts⟩ :: l)
  | named {x n : Str} {i : Nat} {c : Value} {ts : Addr → Value → Option Addr → TS} {b₀ : Stmt} {suite : List Stmt} {np pos' : Pos} {hds : List ExceptHandler} {l : List HC} (hc : Names X x c) (hi : X.N[i]? = some n) (hln : X.env.kindOf n = some .local)
      (hsu : SuiteOk X (b₀ :: suite) ts) (r : HsOk X hds l) : HsOk X (.ExceptHandler (some (.Name x np)) (some n) (b₀ :: suite) pos' :: hds) (⟨c, some i, ts⟩ :: l)
section
variable {X : Cx} {pins : List (Addr × Obj)} {σ : St} {H : Hp} {sI s' : Shared} {B : Heap} {a : Addr} {cls : Value} {d : Option Addr} {D : Ends} {Wout : WX} {h3 : Heap}
/-- out of a suite -/
theorem suite_out {oe : Obj} {pn' : List (Addr × Obj)} {f : Flow} {s6 : Shared} (ok : X.Ok) (h : SP (X.suite a ((a, oe) :: (X.pn ++ pins))) pn' D f s6) : SP X pins D f s6 := by
  match f, h with
  | .next, ⟨u, G, J, q⟩ => exact ⟨u, G, J.unsuite ok, q⟩
  | .brk, ⟨u, G, J, q⟩ => exact ⟨u, G, J.unsuite ok, q⟩
  | .cont, ⟨u, G, J, q⟩ => exact ⟨u, G, J.unsuite ok, q⟩
  | .ret v, ⟨x, u, G, J, r, q⟩ => exact ⟨x, u, G, J.unsuite ok, r, q⟩
/-- the clauses, one after the other -/
theorem clauses_ok (ok : X.Ok) (hN : X.N.Nodup) (hs : X.stack = X.env :: X.outer) (hf : X.env.frame = some X.env.locals) (tk : Takes X Wout) (J : Inv X pins σ H sI) (nb : ∀ b o, sI.heap.get? b = some o → b ∉ frs X.stack → B.get? b = some o)
    (up3 : sI.heap.UpToSlots h3) (fl3 : HandSPX.FlyingZ B (X.env :: X.outer) a (Zc cls d) h3) (na : H a = none) (nL : a ≠ X.env.locals) (nF : a ∉ X.fs) (os : s'.os = sI.os) (ag : AllBare s'.gens) {hds : List ExceptHandler} {l : List HC} (hk : HsOk X hds l) :
    wCl X.K Wout D l cls d σ H → wpAny (model X.prog X.w) X.A (handleBy (.ref a) X.env hds) (SP X pins D) X.xe { s' with heap := h3 } := by
  have J3 : Inv X pins σ H { s' with heap := h3 } := J.landed nb fl3.1 up3 os ag
  obtain ⟨oe3, vs3, he3, hz3, hd3⟩ := fl3.there
  have S3 := J3.suite he3 hd3 na nL nF
  have LT : PySem.W.Looks (model X.prog X.w) h3 (typeOf (.ref a)) cls := by
    intro A Q E s k q
    exact wpAny_typeOf_ref (k _ _ he3) (by rw [hz3.1]; exact q)
  have named : ∀ {x : Str} {c : Value} {np : Pos} {Q E : Value → Shared → Prop}, Names X x c → Q c { s' with heap := h3 } → wpAny (model X.prog X.w) (X.A.mark (some (.ref a))) (eval (.Name x np) X.env) Q E { s' with heap := h3 } := by
    intro x c np Q E hc q
    rcases hc with ⟨hg, hdb, hm | ⟨hm, hv, hnn⟩⟩
    · exact ld_glob (X := X.suite a ((a, oe3) :: (X.pn ++ pins))) S3 hg hm q hdb
    · exact ld_blt (X := X.suite a ((a, oe3) :: (X.pn ++ pins))) S3 hg hm hv q hnn hdb
  induction hk with
  | nil =>
    intro w
    refine wpAny_handleBy_nil ?_
    obtain ⟨y1, y2, y3, oe, vs, T, oT, ts', he, hz, hd, hv1, hr⟩ := id fl3
    unfold PySem.passOn
    refine wpAny_bind (wpAny_field he hd hv1 ?_)
    rw [if_neg (by simp : ¬ ((Value.ref T == Value.none) = true))]
    have last : wpAny (model X.prog X.w) X.A (setFlight (.ref a) X.env.frame) (fun _ s4 => wpAny (model X.prog X.w) X.A (throw (.ref a) : Sem Flow) (SP X pins D) X.xe s4) X.xe { s' with heap := h3 } := by
      rw [hf]
      refine HandSPX.setFlight_upZ fl3 fun h4 hh4 up4 => wpAny_throw (tk _ _ ⟨a, B, sI, pins, σ, H, cls, d, rfl, J, nb, up3.trans up4, ?_, na, os, ag, w⟩)
      exact Or.inr (Or.inr (by rw [hs]; exact hh4))
    first
      | exact wpAny_bind (wpAny_pure (wpAny_bind last))
      | exact wpAny_bind last
  | @plain x c ts b₀ suite np pos' hds2 l2 hc hsu r ih =>
    intro w
    obtain ⟨b, hb1, hyes, hno⟩ := w
    refine wpAny_handleBy_cons (codeAny_handlers_test (named hc ((PySem.W.exm_one (M := model X.prog X.w) J3.kIn LT hb1).here ?_))) (by intro q; cases q)
    cases b with
    | false => exact ih (hno rfl)
    | true =>
      refine codeAny_handlers_suite (HandSPX.lands_againZ fl3 fun h4 fl4 up4 => ?_)
      have J4 : Inv X pins σ H { s' with heap := h4 } := J.landed nb fl4.1 (up3.trans up4) os ag
      obtain ⟨oe4, vs4, he4, hz4, hd4⟩ := fl4.there
      have go := (hsu a oe4 cls d (X.pn ++ pins) hz4 ⟨_, hd4⟩).run [] _ _ H _ (J4.suite he4 hd4 na nL nF) (hyes rfl a na)
      exact wpAny_mono go (fun f s6 q6 => suite_out ok q6) (fun _ _ z => z.elim)
  | @named x n i c ts b₀ suite np pos' hds2 l2 hc hi hln hsu r ih =>
    intro w
    obtain ⟨b, hb1, hyes, hno⟩ := w
    refine wpAny_handleBy_cons (codeAny_handlers_test (named hc ((PySem.W.exm_one (M := model X.prog X.w) J3.kIn LT hb1).here ?_))) (by intro q; cases q)
    cases b with
    | false => exact ih (hno rfl)
    | true =>
      refine codeAny_handlers_suite_as (HandSPX.lands_againZ fl3 fun h4 fl4 up4 => ?_)
      have J4 : Inv X pins σ H { s' with heap := h4 } := J.landed nb fl4.1 (up3.trans up4) os ag
      obtain ⟨oe4, vs4, he4, hz4, hd4⟩ := fl4.there
      refine store_ok (X := X.suite a ((a, oe4) :: (X.pn ++ pins))) (v := .ref a) (J4.suite he4 hd4 na nL nF) hN hi (Or.inl hln) rfl (fun s5 S5 => ?_) (Or.inr hln)
      have go := (hsu a oe4 cls d (X.pn ++ pins) hz4 ⟨_, hd4⟩).run [] s5 _ H _ S5 (hyes rfl a na)
      refine wpAny_mono go (fun f s6 q6 => ?_) (fun _ _ z => z.elim)
      match f, q6 with
      | .next, ⟨u, G, S6, q⟩ => exact gone_ok (S6.unsuite ok) hN hi hln fun s7 J7 => ⟨_, _, J7, q⟩
      | .brk, ⟨u, G, S6, q⟩ => exact gone_ok (S6.unsuite ok) hN hi hln fun s7 J7 => ⟨_, _, J7, q⟩
      | .cont, ⟨u, G, S6, q⟩ => exact gone_ok (S6.unsuite ok) hN hi hln fun s7 J7 => ⟨_, _, J7, q⟩
      | .ret v, ⟨y, u, G, S6, rv, q⟩ => exact gone_ok (S6.unsuite ok) hN hi hln fun s7 J7 => ⟨_, _, _, J7, rv, q⟩
end
section
variable {X : Cx} {body : List Stmt} {h₀ : ExceptHandler} {hds : List ExceptHandler} {l : List HC} {pos : Pos} {tb : WX → TS} {Wout : WX}
theorem ps_tryM (hN : X.N.Nodup) (hs : X.stack = X.env :: X.outer) (hf : X.env.frame = some X.env.locals) (tk : Takes X Wout)
    (hb : ∀ (W : WX) (pn : List (Addr × Obj)) (xe : Value → Shared → Prop), Takes (X.tr pn xe) W → PassesOwn (model X.prog X.w) X.A X.env xe → PSs (X.tr pn xe) body (tb W)) (hh : HsOk X (h₀ :: hds) l) :
    PS X (.Try body (h₀ :: hds) [] [] pos) (fun D σ H => tb (wCl X.K Wout D l) D σ H) := by
  constructor
  intro pins s σ H D I h
  have ok := I.ok
  have frm : X.A.frames = some (X.env :: X.outer) := by rw [ok.frames, hs]
  refine wpAny_Try_except ?_
  refine wpAny_mono ((hb (wCl X.K Wout D l) (X.pn ++ pins) _ (fun u s' xx => ?_) PassesOwn.looking).run [] s σ H D (I.toTry _) h) (fun f s1 hsp => ?_) (fun e s1 he => he)
  · obtain ⟨a, B, sI, pins', σ', H', cls, d, rfl, J', nb, up, sky, na, os, ag, w⟩ := xx
    have J : Inv X pins σ' H' sI := J'.ofTry ok
    have sky2 : Sky B (X.env :: X.outer) a (Zc cls d) X.env.locals s'.heap := by rw [← hs]; exact sky
    refine (show wpAny _ X.A (noteFrame (.ref a) X.env) _ _ _ from Sky.land Zc.steady frm hf sky2 fun h3 fl3 up3 => ?_)
    obtain ⟨oe3, vs3, he3, hz3, hd3⟩ := fl3.there
    have nfr : a ∉ frs (X.env :: X.outer) := fun hm => by
      obtain ⟨_, o', e', hnf⟩ := fl3.2.2.1.mem hm
      rw [he3] at e'
      cases e'
      exact hnf _ hd3
    have nL : a ≠ X.env.locals := fun z => nfr (List.mem_filterMap.mpr ⟨X.env, List.mem_cons_self, by rw [hf, z]⟩)
    have nF : a ∉ X.fs := fun hm => by
      obtain ⟨v, hv, q⟩ := List.mem_filterMap.mp hm
      exact nfr (List.mem_filterMap.mpr ⟨v, List.mem_cons_of_mem _ hv, q⟩)
    exact clauses_ok ok hN hs hf tk J nb (up.trans up3) fl3 na nL nF os ag hh w
  · match f, hsp with
    | .next, ⟨u, G, J', q⟩ => exact wpAny_execs_nil ⟨u, G, J'.ofTry ok, q⟩
    | .brk, ⟨u, G, J', q⟩ => exact ⟨u, G, J'.ofTry ok, q⟩
    | .cont, ⟨u, G, J', q⟩ => exact ⟨u, G, J'.ofTry ok, q⟩
    | .ret v, ⟨x, u, G, J', r, q⟩ => exact ⟨x, u, G, J'.ofTry ok, r, q⟩
end
end DL
end L2

set_option Elab.async false
set_option linter.all false
set_option maxRecDepth 100000
set_option maxHeartbeats 1000000
namespace L2
open PySem PySem.Spec PyProof.Rows
namespace DL
/-! ### try on data: each clause returns -/
structure HdS where
  ns : List Nat
  i : Option Nat
  f : FE
def enX (n : Nat) (i : Option Nat) (x : Xn) : En := match i with
  | none => List.replicate n .un
  | some i => (List.replicate n .un).set i (.xn x)
def noEx (r : R PyData) : R Fl := match r with
  | .ok d c => .ok (.rt d) c
  | _ => .no
def hdD (n : Nat) (hs : List HdS) (x : Xn) (c : Int) : R Fl := match hs with
  | [] => .ex x c
  | h :: r => if x.n ∈ h.ns then noEx (h.f (enX n h.i x) c) else hdD n r x c
def sTry (n : Nat) (g : FS) (hs : List HdS) : FS := fun ρ c => match g ρ c with
  | .ex x c1 => hdD n hs x c1
  | r => r
/-- a suite's expression -/
def SuE (X : Cx) (p : Par) (e : Expr) (f : FE) : Prop :=
  ∀ (a : Addr) (oe : Obj) (C dd : Addr) (pn : List (Addr × Obj)) (B0 H0 : Hp), Zc (.ref C) (some dd) oe → (∃ vs, oe.data = .fields vs) → PE (X.suite a ((a, oe) :: pn)) e (dE ⟨p.K, p.C, B0, H0, p.xt, W0, some (a, dd, C), p.n⟩ f)
def CatchT (p : Par) (c : Value) (ns : List Nat) : Prop := ∀ (m : Nat) (C : Addr) (nm : List Str), p.xt[m]? = some ⟨C, nm⟩ → PySem.W.exmOne p.K (.ref C) c = some (decide (m ∈ ns))
inductive HsD (X : Cx) (p : Par) : List ExceptHandler → List HdS → Prop
  | nil : HsD X p [] []
  | plain {x : Str} {c : Value} {nsl : List Nat} {f : FE} {e : Expr} {np pos2 pos' : Pos} {hds : List ExceptHandler} {hs : List HdS} (hc : Names X x c) (ht : CatchT p c nsl) (he : SuE X p e f) (r : HsD X p hds hs) :
      HsD X p (.ExceptHandler (some (.Name x np)) none [.Return (some e) pos2] pos' :: hds) (⟨nsl, none, f⟩ :: hs)
  | named {x nm : Str} {i : Nat} {c : Value} {nsl : List Nat} {f : FE} {e : Expr} {np pos2 pos' : Pos} {hds : List ExceptHandler} {hs : List HdS} (hc : Names X x c) (hi : X.N[i]? = some nm) (hln : X.env.kindOf nm = some .local) (ht : CatchT p c nsl) (he : SuE X p e f) (r : HsD X p hds hs) :
      HsD X p (.ExceptHandler (some (.Name x np)) (some nm) [.Return (some e) pos2] pos' :: hds) (⟨nsl, some i, f⟩ :: hs)
def tsD (p : Par) (f : FE) : Addr → Value → Option Addr → TS := fun a cls d D σ H => ∃ B0 C dd, cls = .ref C ∧ d = some dd ∧ dE ⟨p.K, p.C, B0, H, p.xt, W0, some (a, dd, C), p.n⟩ f σ H D.rt
theorem suite_ok {X : Cx} {p : Par} {e : Expr} {f : FE} {pos : Pos} (he : SuE X p e f) : SuiteOk X [.Return (some e) pos] (tsD p f) := by
  intro a oe cls d pn hz hf
  refine ⟨fun pins s σ H D I ⟨B0, C, dd, h1, h2, h⟩ => ?_⟩
  subst h1
  subst h2
  exact (pss_one (ps_ret (he a oe C dd pn B0 H hz hf))).run pins s σ H D I h
section
variable {X : Cx} {p : Par}
/-- the suite's own view of the state -/
theorem Sta.inSuite {B H : Hp} {σ : St} {ρ : En} {c : Int} (S : Sta p B H σ ρ c) {C dd : Addr} {ns : List Str} {vs : List V} {x : Xn} (a : Addr) (hx : p.xt[x.n]? = some ⟨C, ns⟩) (hd : H dd = some (.xd (ns.zip vs))) (hr : RpA p.K B vs x.fs) (hl : ns.length = vs.length) (i : Option Nat) :
    Sta ⟨p.K, p.C, B, H, p.xt, W0, some (a, dd, C), p.n⟩ B H (match i with | none => σ | some i => σ.set i (some (.ref a))) (enX p.n i x) c := by
  have hln : (match i with | none => σ | some i => σ.set i (some (V.ref a))).length = σ.length := by cases i <;> simp
  have hen : (enX p.n i x).length = p.n := by cases i <;> simp [enX]
  refine ⟨S.sub, Same.refl _, fun a h => .inl h, fun a o e _ => e, fun b e => ?_, by rw [hln, hen]; exact S.ln, by rw [hln]; exact S.ln, fun j s e => ?_, fun j k b ds es e1 _ _ _ => ?_⟩
  · obtain ⟨q1, q2, q3⟩ := S.cel b e
    exact ⟨q1, q2, fun z => by have z' : H b = none := z; rw [q1] at z'; cases z'⟩
  · have hj : j < p.n := by rw [← hen]; exact (List.getElem?_eq_some_iff.mp e).1
    have hjσ : j < (match i with | none => σ | some i => σ.set i (some (V.ref a))).length := by rw [hln, S.ln]; exact hj
    cases i with
    | none =>
      simp only [enX, List.getElem?_replicate, if_pos hj, Option.some.injEq] at e
      subst e
      exact ⟨_, List.getElem?_eq_getElem hjσ, trivial⟩
    | some i =>
      simp only [enX] at e
      by_cases hij : i = j
      · subst hij
        rw [List.getElem?_set_self (by simpa using hj)] at e
        cases e
        refine ⟨some (.ref a), ?_, a, dd, C, ns, vs, rfl, rfl, hx, hd, fun z => ?_, hr, hl⟩
        · have : i < σ.length := by rw [S.ln]; exact hj
          simp [this]
        · have z' : H dd = none := z
          rw [hd] at z'
          cases z'
      · rw [List.getElem?_set_ne hij] at e
        simp only [List.getElem?_replicate, if_pos hj, Option.some.injEq] at e
        subst e
        exact ⟨_, List.getElem?_eq_getElem hjσ, trivial⟩
  · exfalso
    cases i with
    | none =>
      simp only [enX, List.getElem?_replicate] at e1
      split at e1 <;> cases e1
    | some i =>
      simp only [enX] at e1
      by_cases hij : i = j
      · subst hij
        by_cases hl : i < p.n
        · rw [List.getElem?_set_self (by simpa using hl)] at e1; cases e1
        · rw [List.getElem?_eq_none (by simp; omega)] at e1; cases e1
      · rw [List.getElem?_set_ne hij] at e1
        simp only [List.getElem?_replicate] at e1
        split at e1 <;> cases e1
def setO (σ : St) (i : Option Nat) (a : Addr) : St := match i with
  | none => σ
  | some i => σ.set i (some (.ref a))
theorem suite_in {B0 H : Hp} {σ : St} {ρ : En} {c1 : Int} {D : Ends} {cls : Value} {d : Option Addr} {x : Xn} {f : FE} {a : Addr} (S : Sta p B0 H σ ρ c1) (i : Option Nat) (ex : ExOk p.K p.xt B0 H cls d x) (m : PostS p B0 D (noEx (f (enX p.n i x) c1))) :
    tsD p f a cls d D (setO σ i a) H := by
  obtain ⟨C, ns, dd, vs, k1, k2, k3, k4, k5, k6⟩ := ex
  refine ⟨B0, C, dd, k2, k3, B0, _, c1, S.inSuite a k1 k4 k5 k6 i, ?_⟩
  unfold noEx at m
  cases q : f (enX p.n i x) c1 with
  | no => rw [q] at m; exact m.elim
  | ex y c2 => rw [q] at m; exact m.elim
  | ok e c2 =>
    rw [q] at m
    intro v B' H' S' s' r'
    exact m v σ ρ B' H' (S.call ⟨S'.ext, S'.sub, S'.new, S'.keep⟩ fun a e => (S'.cel a e).1) s' r'
theorem hs_ok {hds : List ExceptHandler} {hs : List HdS} (hh : HsD X p hds hs) : ∃ l, HsOk X hds l ∧ ∀ (B : Hp) (D : Ends) (x : Xn) (c : Int), PostS p B D (hdD p.n hs x c) →
    ∀ σ' ρ' B' H' cls d, Sta p B' H' σ' ρ' c → Same B B' → ExOk p.K p.xt B' H' cls d x → wCl p.K p.W D l cls d σ' H' := by
  induction hh with
  | nil => exact ⟨[], .nil, fun B D x c m σ' ρ' B' H' cls d S s e => m σ' ρ' B' H' cls d S s e⟩
  | @plain x c nsl f e np pos2 pos' hds hs hc ht he r ih =>
    obtain ⟨l, h1, h2⟩ := ih
    refine ⟨⟨c, none, tsD p f⟩ :: l, .plain hc (suite_ok he) h1, fun B D x c1 m σ' ρ' B' H' cls d S s ex => ?_⟩
    obtain ⟨C, ns, dd, vs, k1, k2, k3, k4, k5, k6⟩ := id ex
    refine ⟨decide (x.n ∈ nsl), by rw [k2]; exact ht _ _ _ k1, fun y a na => ?_, fun y => ?_⟩
    · unfold hdD at m
      rw [if_pos (of_decide_eq_true y)] at m
      exact suite_in S none ex (PostS.from m s)
    · unfold hdD at m
      rw [if_neg (of_decide_eq_false y)] at m
      exact h2 B D x c1 m σ' ρ' B' H' cls d S s ex
  | @named x nm i c nsl f e np pos2 pos' hds hs hc hi hln ht he r ih =>
    obtain ⟨l, h1, h2⟩ := ih
    refine ⟨⟨c, some i, tsD p f⟩ :: l, .named hc hi hln (suite_ok he) h1, fun B D x c1 m σ' ρ' B' H' cls d S s ex => ?_⟩
    obtain ⟨C, ns, dd, vs, k1, k2, k3, k4, k5, k6⟩ := id ex
    refine ⟨decide (x.n ∈ nsl), by rw [k2]; exact ht _ _ _ k1, fun y a na => ?_, fun y => ?_⟩
    · unfold hdD at m
      rw [if_pos (of_decide_eq_true y)] at m
      exact suite_in (D := endsAt i D) (a := a) S (some i) ex (by
        have m2 : PostS p B' D (noEx (f (enX p.n (some i) x) c1)) := PostS.from m s
        unfold noEx at m2 ⊢
        cases q : f (enX p.n (some i) x) c1 with
        | no => rw [q] at m2; exact m2.elim
        | ex y c2 => rw [q] at m2; exact m2.elim
        | ok e c2 => rw [q] at m2; exact m2)
    · unfold hdD at m
      rw [if_neg (of_decide_eq_false y)] at m
      exact h2 B D x c1 m σ' ρ' B' H' cls d S s ex
theorem Cz.try {k : Nat} (Z : Cz X p k) {W : WX} {pn : List (Addr × Obj)} {xe : Value → Shared → Prop} (tk : Takes (X.tr pn xe) W) (po : PassesOwn (model X.prog X.w) X.A X.env xe) : Cz (X.tr pn xe) { p with W := W } k :=
  ⟨Z.hk, Z.room, Z.gd, Z.calm, Z.nd, tk, po⟩
theorem ds_try {k : Nat} {body : List Stmt} {h₀ : ExceptHandler} {hds : List ExceptHandler} {hs : List HdS} {pos : Pos} {g : FS} (Z : Cz X p k) (hst : X.stack = X.env :: X.outer) (hf : X.env.frame = some X.env.locals)
    (hb : ∀ (W : WX) (pn : List (Addr × Obj)) (xe : Value → Shared → Prop), Cz (X.tr pn xe) { p with W := W } k → PSs (X.tr pn xe) body (dS { p with W := W } g)) (hh : HsD X p (h₀ :: hds) hs) : PS X (.Try body (h₀ :: hds) [] [] pos) (dS p (sTry p.n g hs)) := by
  obtain ⟨l, hl, hw⟩ := hs_ok hh
  refine (ps_tryM (tb := fun W => dS { p with W := W } g) Z.nd hst hf Z.tk (fun W pn xe tk po => hb W pn xe (Z.try tk po)) hl).imp fun D σ H ⟨B, ρ, c, S, m⟩ => ⟨B, ρ, c, S.wish _, ?_⟩
  unfold sTry at m
  generalize g ρ c = r at m ⊢
  match r, m with
  | .ok (.nx ρ') c', m => exact fun σ' B2 H2 S2 z => m σ' B2 H2 S2.unwish z
  | .ok (.rt d) c', m => exact fun v σ' ρ' B2 H2 S2 z => m v σ' ρ' B2 H2 S2.unwish z
  | .ok (.bk ρ') c', m => exact fun σ' B2 H2 S2 z => m σ' B2 H2 S2.unwish z
  | .ok (.ct ρ') c', m => exact fun σ' B2 H2 S2 z => m σ' B2 H2 S2.unwish z
  | .ex x c', m => exact fun σ' ρ' B' H' cls d S' s' ex => by have z := hw B D x c' m σ' ρ' B' H' cls d S'.unwish s' ex; rw [Z.hk] at z; exact z
  | .no, m => exact m.elim
/-- e.name in a suite -/
def fXat (nms : List (List Str)) (i : Nat) (nm : Str) : FE := fun ρ c => match ρ[i]? with
  | some (.xn x) => match nms[x.n]? with
    | some ns => ofO ((ns.zip x.fs).lookup nm) c
    | none => .no
  | _ => .no
structure XatOk (K : PySem.W.Frag) (xt : List XC) (nm : Str) : Prop where
  at1 : ∀ (m : Nat) (C : Addr) (ns : List Str), xt[m]? = some ⟨C, ns⟩ → XfC K C ∧ (nm ∈ ns → PySem.W.findIn K (.ref C) nm = some none)
theorem lookup_zip {K : PySem.W.Frag} {B : Hp} {ns : List Str} {vs : List V} {ds : List PyData} (h : RpA K B vs ds) {nm : Str} {d : PyData} (e : (ns.zip ds).lookup nm = some d) : nm ∈ ns ∧ ∃ v, (ns.zip vs).lookup nm = some v ∧ Rp K B v d := by
  induction ns generalizing vs ds with
  | nil => simp at e
  | cons x ns ih =>
    cases h with
    | nil => simp at e
    | @cons v vs d0 ds h t =>
      simp only [List.zip_cons_cons, List.lookup] at e ⊢
      by_cases hx : nm == x
      · rw [hx] at e ⊢
        simp only at e ⊢
        cases e
        exact ⟨by simp [beq_iff_eq.mp hx], v, rfl, h⟩
      · have hx' : (nm == x) = false := by simpa using hx
        rw [hx'] at e ⊢
        simp only at e ⊢
        obtain ⟨h1, h2⟩ := ih t e
        exact ⟨List.mem_cons_of_mem _ h1, h2⟩
theorem pe_xat {nms : List (List Str)} {i : Nat} {nm en : Str} {pn2 pos2 : Pos} {a : Addr} {oe : Obj} {C dd : Addr} {pn : List (Addr × Obj)} {B0 H0 : Hp} (hk : p.K = X.K) (hnm : p.xt.map XC.ns = nms) (hx : XatOk p.K p.xt nm) (hz : Zc (.ref C) (some dd) oe) (hf : ∃ vs, oe.data = .fields vs)
    (hn : PE (X.suite a ((a, oe) :: pn)) (.Name en pn2) (tVar i)) (hb : attributeBase (.Name en pn2) nm X.env (eval (.Name en pn2) X.env) = eval (.Name en pn2) X.env := by rfl) :
    PE (X.suite a ((a, oe) :: pn)) (.Attribute (.Name en pn2) nm pos2) (dE ⟨p.K, p.C, B0, H0, p.xt, W0, some (a, dd, C), p.n⟩ (fXat nms i nm)) := by
  refine ⟨fun pins s σ H Q I h => ?_⟩
  obtain ⟨B, ρ, c, S, m⟩ := h
  unfold fXat at m
  split at m
  · rename_i x e
    obtain ⟨o, e1, a', dd', C', ns, vs, k1, k2, k3, k4, k5, k6, k7⟩ := S.slot i _ e
    cases k1
    subst k2
    have hns : nms[x.n]? = some ns := by rw [← hnm, List.getElem?_map, show p.xt[x.n]? = some ⟨C, ns⟩ from k3]; rfl
    rw [hns] at m
    obtain ⟨d, e2, q⟩ := ofO_ok m
    obtain ⟨m1, v, e3, r⟩ := lookup_zip k6 e2
    obtain ⟨T, T2⟩ := hx.at1 _ _ _ k3
    refine (pe_xf (X := X) (hk ▸ T) (hk ▸ T2 m1) hz hf hn hb).run pins s σ H Q I ⟨_, e1, rfl, rfl, dd, ns.zip vs, v, rfl, k4, e3, q v B H S (Same.refl _) r⟩
  · exact m.elim
/-- isinstance(e, X) in a suite -/
structure XisOk (K : PySem.W.Frag) (C : Addr) : Prop where
  xf : XfC K C
  cl : (PySem.W.clsIn K C).isSome = true
  ha : PySem.W.findIn K (.ref C) "__class__" = some (some (.builtin "object.__class__"))
  hm : PySem.W.mroIn K C (.type "object") = some true
structure XisK (K : PySem.W.Frag) : Prop where
  hn : PySem.W.specialIn K (.builtin "object.__class__") "__get__" = some (some (.builtin "getset_descriptor.__get__"))
  ht : PySem.W.takesIn K (.builtin "object.__class__") = some true
def rIsX (K : PySem.W.Frag) (C a dd : Addr) : List V → Hp → VK → Prop := fun xs H Q => ∃ (c : V) (cv : Value) (b : Bool) (fs : List (Str × V)), xs = [.ref a, c] ∧ (∀ u, RelV c u → u = cv) ∧ PySem.W.kitOne K (.ref C) cv = some b ∧ H dd = some (.xd fs) ∧ Q (.bl b) H
theorem call_isX {a C dd : Addr} {oe : Obj} {pn : List (Addr × Obj)} (T : XisOk X.K C) (T0 : XisK X.K) (hz : Zc (.ref C) (some dd) oe) (hf : ∃ vs, oe.data = .fields vs) : CallR (X.suite a ((a, oe) :: pn)) (.builtin "isinstance") (rIsX X.K C a dd) := by
  intro pins s σ H xs us Q I r h
  obtain ⟨c, cv, b, fs, rfl, hcv, e, hd, q⟩ := h
  cases r with
  | cons rx rr =>
    cases rr with
    | cons rt rr =>
      cases rr
      cases rx
      have ec := hcv _ rt
      subst ec
      obtain ⟨hget, _⟩ := I.pin (a, oe) (List.mem_append.mpr (.inl List.mem_cons_self))
      obtain ⟨vs, hv⟩ := hf
      obtain ⟨mA, hns, hr⟩ : ObjOk X.prog X.w H s.heap dd (.xd fs) := I.hok dd _ hd
      obtain ⟨od, ho, hl⟩ := lookIn_ns hns
      have J : PySem.W.InstAt s.heap a oe C (some od) := ⟨hget, hz.1, by unfold PySem.W.notCls; rw [hv] <;> rfl, by rw [hz.2]; exact ho⟩
      exact PySem.W.kia_one (PySem.W.kitx_exc T.cl T.xf.ga T.xf.gg T.xf.exC T.ha T0.hn T0.ht T.hm) I.kIn J e (fun z => nomatch z) fun tk => ⟨.bl b, H, I.kept (t' := tk) fun _ _ z => z, rfl, q⟩
def fXis (ns : List Nat) (i : Nat) : FE := fun ρ c => match ρ[i]? with
  | some (.xn x) => .ok (.bool (decide (x.n ∈ ns))) c
  | _ => .no
theorem pe_xis {ns : List Nat} {i : Nat} {x en : Str} {pn2 pn3 pp pos : Pos} {a : Addr} {oe : Obj} {C dd Cx : Addr} {pn : List (Addr × Obj)} {B0 H0 : Hp} (hk : p.K = X.K) (hx : ∀ (m : Nat) (C : Addr) (ns' : List Str), p.xt[m]? = some ⟨C, ns'⟩ → XisOk p.K C ∧ PySem.W.kitOne p.K (.ref C) (.ref Cx) = some (decide (m ∈ ns))) (T0 : XisK X.K)
    (hz : Zc (.ref C) (some dd) oe) (hf : ∃ vs, oe.data = .fields vs) (hg : Gl X "isinstance") (hm : X.mg "isinstance" = none) (hn : PE (X.suite a ((a, oe) :: pn)) (.Name en pn2) (tVar i)) (hc : PE (X.suite a ((a, oe) :: pn)) (.Name x pn3) (tC (.ref Cx)))
    (he : starEach ((.Name en pn2) :: [.Name x pn3]) X.env = (false, eval (.Name en pn2) X.env) :: starEach [.Name x pn3] X.env := by rfl) (he2 : starEach ((.Name x pn3) :: []) X.env = (false, eval (.Name x pn3) X.env) :: starEach [] X.env := by rfl)
    (hpl : (backTo pos (starEach [.Name x pn3] X.env)).any (·.1) = false := by rfl) :
    PE (X.suite a ((a, oe) :: pn)) (.Call (.Name "isinstance" pp) [.Name en pn2, .Name x pn3] [] pos) (dE ⟨p.K, p.C, B0, H0, p.xt, W0, some (a, dd, C), p.n⟩ (fXis ns i)) := by
  refine ⟨fun pins s σ H Q I h => ?_⟩
  obtain ⟨B, ρ, c, S, m⟩ := h
  unfold fXis at m
  split at m
  · rename_i y e
    obtain ⟨o, e1, a', dd', C', ns', vs, k1, k2, k3, k4, k5, k6, k7⟩ := S.slot i _ e
    cases k1
    subst k2
    obtain ⟨T, T2⟩ := hx _ _ _ k3
    refine (pe_callB (X := X.suite a ((a, oe) :: pn)) (call_isX (hk ▸ T) T0 hz hf) hg hm (by decide +kernel) (pa_cons hn (pa_cons hc pa_nil he2) he) (by decide) (by decide) he hpl).run pins s σ H Q I ?_
    exact ⟨_, e1, .ref Cx, .ref Cx, _, _, rfl, fun u h => h, hk ▸ T2, k4, m _ B H S (Same.refl _) (.bl _)⟩
  · exact m.elim
end
end DL
end L2

set_option Elab.async false
set_option linter.all false
set_option maxRecDepth 100000
set_option maxHeartbeats 1000000
namespace L2
open PySem PySem.Spec PyProof.Rows
namespace DL
/-! ### the module's constants -/
def KT (K : PySem.W.Frag) (a : Addr) (d : PyData) : Prop := ∀ B : Hp, Rp K B (.ref a) d
theorem kt_of {K : PySem.W.Frag} {a : Addr} {dd : Option Addr} {its : List Value} {n : Nat} {sl : Array (Option Value)} {xs : List V} {ds : List PyData} (l : K.lookup a = some ⟨.type "tuple", dd, .seq its.toArray n, sl⟩) (hz : its.length ≤ sizeLine) (hv : Vals xs its) (h : ∀ B : Hp, RpA K B xs ds) : KT K a (.tuple ds) :=
  fun B => .tup (.inr ⟨_, its.toArray, n, l, rfl, rfl, by simpa using hz, by simpa using hv⟩) (h B)
section
variable {X : Cx} {p : Par} {pos : Pos} {k kz n i : Nat} {x : Str} {f : FE} {a e : Expr}
theorem de_gi {m : Int} {t : Tok} (hg : Gl X x) (hm : X.mg x = some (.int m t)) (hd : (x == ("__debug__" : Str)) = false := by decide) : PE X (.Name x pos) (dE p (fC (.int m))) := de_tC (pe_glob (v := .int m) hg hm ⟨t, rfl⟩ hd) fun _ _ => .int m
theorem de_gs {m : Str} {t : Tok} (hg : Gl X x) (hm : X.mg x = some (.str m t)) (hd : (x == ("__debug__" : Str)) = false := by decide) : PE X (.Name x pos) (dE p (fC (.str m))) := de_tC (pe_glob (v := .str m) hg hm ⟨t, rfl⟩ hd) fun _ _ => .str m
theorem de_gt {a : Addr} {d : PyData} (hg : Gl X x) (hm : X.mg x = some (.ref a)) (h : KT p.K a d) (hd : (x == ("__debug__" : Str)) = false := by decide) : PE X (.Name x pos) (dE p (fC d)) := de_tC (pe_glob (v := .ref a) hg hm rfl hd) fun B _ => h B

/-! ### x op= e on data -/
def sAug (i : Nat) (bf : PyData → PyData → Option PyData) (f : FE) : FS := fun ρ c => match ρ[i]? with
  | some (.dt d0) => (f ρ c).bind fun d c1 => (ofO (bf d0 d) c1).bind fun e c2 => .ok (.nx (ρ.set i (.dt e))) c2
  | _ => .no
theorem ds_aug {op : Operator} {bf : PyData → PyData → Option PyData} {pos' : Pos} (hN : X.N.Nodup) (hi : X.N[i]? = some x) (hx : Loc X.env.scope x) (he : PE X e (dE p f)) (ho : PIp X op (vOp p.K bf)) (hf : X.fn x = true ∨ X.env.scope.names.lookup x = some .local := by first | exact .inl rfl | exact .inr rfl | assumption) :
    PS X (.AugAssign (.Name x pos') op e pos) (dS p (sAug i bf f)) :=
  (ps_aug (i := i) hN hi hx he ho hf).imp fun D σ H ⟨B, ρ, c, S, m⟩ => by
    unfold sAug at m
    split at m
    · rename_i d0 e0
      obtain ⟨o, e1, v, e2, r⟩ := S.slot i _ e0
      subst e2
      refine ⟨v, e1, B, ρ, c, S, PostS.bE m fun d c1 u B1 H1 S1 r1 s1 m1 => ?_⟩
      cases q : bf d0 d with
      | none => rw [q] at m1; exact m1.elim
      | some w =>
        rw [q] at m1
        exact ⟨B1, d0, d, w, S1.sub, r.mono s1, r1, q, fun v' B' H' G r' => m1 _ B' H' ((S1.grow G).set r') G.b⟩
    · exact m.elim
def iAdd : PyData → PyData → Option PyData
  | .int a, .int b => some (.int (a + b))
  | _, _ => none
def iSub : PyData → PyData → Option PyData
  | .int a, .int b => some (.int (a - b))
  | _, _ => none
theorem vip_add : PIp X .Add (vOp X.K iAdd) := by
  intro pins s σ H x y v u Q I r1 r2 ⟨B, d1, d2, d, sb, k1, k2, e, q⟩
  unfold iAdd at e
  split at e
  · cases e
    obtain rfl := k1.of_int
    obtain rfl := k2.of_int
    exact ip_add pins s σ H _ _ v u Q I r1 r2 ⟨_, _, rfl, rfl, q _ B H (Gw.refl sb) (.int _)⟩
  · cases e
theorem vip_sub : PIp X .Sub (vOp X.K iSub) := by
  intro pins s σ H x y v u Q I r1 r2 ⟨B, d1, d2, d, sb, k1, k2, e, q⟩
  unfold iSub at e
  split at e
  · cases e
    obtain rfl := k1.of_int
    obtain rfl := k2.of_int
    exact ip_sub pins s σ H _ _ v u Q I r1 r2 ⟨_, _, rfl, rfl, q _ B H (Gw.refl sb) (.int _)⟩
  · cases e

/-! ### methods of texts and lists -/
def fMt (T : String) (cf : PyData → List PyData → Option PyData) (f : FE) (fa : FA) : FE := fun ρ c => (f ρ c).bind fun d c1 => if tyD d = T then (fa ρ c1).bind fun ss c2 => ofO ((dts ss).bind (cf d)) c2 else .no
theorem tyV_d {K : PySem.W.Frag} {B H : Hp} (sb : Same B H) {v : V} {d : PyData} (r : Rp K B v d) {T : String} (hT : T = "str" ∨ T = "list" ∨ T = "int") (e : tyD d = T) : tyV K T v H := by
  subst e
  cases r with
  | non => simp [tyD] at hT
  | bl b => simp [tyD] at hT
  | int i => rfl
  | str z => rfl
  | lst h t => exact .inl ⟨rfl, _, SqL.of (sb _ _ h)⟩
  | tup h t => simp [tyD] at hT
theorem de_mt {T id : String} {nm : Str} {apos cpos : Pos} {o e : Expr} {es : List Expr} {cf : PyData → List PyData → Option PyData} {fa : FA} (hk : p.K = X.K) (hT : T = "str" ∨ T = "list" ∨ T = "int") (pa : PlainAttrs T) (slot : Slot T nm id) (hty : typeOf (.builtin id) = pure (.type "method_descriptor")) (hm : MtR X id (vMt p.K cf)) (ho : PE X o (dE p f)) (ha : PA X (e :: es) (dA p fa))
    (hbase : attributeBase o nm X.env (eval o X.env) = eval o X.env := by rfl)
    (hfew : ((backTo cpos (starEach (e :: es) X.env)).all (fun x => !x.1) && (backToKw cpos (keywordEach [] X.env)).all (fun x => x.1.isSome)
      && decide ((e :: es).length + ([] : List Keyword).length + (if ([] : List Keyword).isEmpty then 0 else 1) < 30)) = true := by rfl)
    (hline : (apos.endLine == cpos.line) = true := by rfl) (hs : starEach (e :: es) X.env = (false, eval e X.env) :: starEach es X.env := by rfl) (hplain : (backTo cpos (starEach es X.env)).any (·.1) = false := by rfl) :
    PE X (.Call (.Attribute o nm apos) (e :: es) [] cpos) (dE p (fMt T cf f fa)) :=
  (pe_bm pa slot hty hm ho ha hbase hfew hline hs hplain).imp fun σ H Q ⟨B, ρ, c, S, m⟩ => by
    refine ⟨B, ρ, c, S, m.bE fun d c1 v B1 H1 S1 r1 s1 m1 => ?_⟩
    split at m1
    · rename_i hd
      refine ⟨hk ▸ tyV_d S1.sub r1 hT hd, B1, ρ, c1, S1, PostE.bA m1 fun ss c2 vs B2 H2 S2 a2 s2 m2 => ?_⟩
      obtain ⟨d', e', q⟩ := ofO_ok m2
      cases e3 : dts ss with
      | none => rw [e3] at e'; cases e'
      | some ds =>
        rw [e3] at e'
        exact ⟨B2, d, ds, d', S2.sub, r1.mono s2, dts_rp a2 e3, e', fun v' B' H' G r => q v' B' H' (S2.grow G) G.b r⟩
    · exact m1.elim
def mSIndex : PyData → List PyData → Option PyData
  | .str a, [.str b] => match Builtin.Str.occurrences a b 0 a.length 1 with
    | i :: _ => some (.int (i : Nat))
    | [] => none
  | _, _ => none
theorem vmt_sindex : MtR X "str.index" (vMt X.K mSIndex) := by
  intro pins s σ H x xs v us Q I rx r ⟨B, d1, ds, d, sb, r1, rs, e, q⟩
  refine mt_sindex pins s σ H x xs v us Q I rx r ?_
  unfold mSIndex at e
  split at e
  · rename_i a b
    split at e
    · rename_i i rest hi
      cases e
      cases rs with
      | cons h t =>
        cases t
        cases h
        exact ⟨a, b, i, rest, r1.of_str, rfl, hi, q _ B H (Gw.refl sb) (.int _)⟩
    · cases e
  · cases e

/-! ### the script -/
def aSc (i : Nat) (fa : FA) : FA := fun ρ c => match ρ[i]? with
  | some (.sc ns) => (fa ρ c).bind fun ss c2 => .ok (.sc ns :: ss) c2
  | _ => .no
theorem da_sc (i : Nat) {es : List Expr} {fa : FA} (ha : PE X a (tVar i)) (hr : PA X es (dA p fa)) (hs : starEach (a :: es) X.env = (false, eval a X.env) :: starEach es X.env := by rfl) : PA X (a :: es) (dA p (aSc i fa)) :=
  (pa_cons ha hr hs).imp fun σ H Q ⟨B, ρ, c, S, m⟩ => by
    unfold aSc at m
    split at m
    · rename_i ns e
      obtain ⟨o, e1, a', e2, e3⟩ := S.slot i _ e
      subst e2
      refine ⟨_, e1, B, ρ, c, S, PostA.bA m fun ss c2 vs B2 H2 S2 a2 s2 m2 => ?_⟩
      exact m2 (_ :: vs) B2 H2 S2 (Same.refl _) (.cons ⟨a', rfl, s2.seq e3⟩ a2)
    · exact m.elim
theorem falen_sc {i : Nat} {fa : FA} {n : Nat} (h : FALen fa n) : FALen (aSc i fa) (n + 1) := fun ρ c ss c' e => by
  unfold aSc at e
  split at e
  · cases q2 : fa ρ c with
    | ok ss2 c2 => rw [q2] at e; cases e; simp [h _ _ _ _ q2]
    | ex x c2 => rw [q2] at e; cases e
    | no => rw [q2] at e; cases e
  · cases e
/-- script[:m], as a fresh list -/
def lSc (i : Nat) (m : Nat) : FL := fun ρ c => match ρ[i]? with
  | some (.sc ns) => .ok ((ns.take m).map PyData.int) c
  | _ => .no
theorem rpA_ints {K : PySem.W.Frag} {B : Hp} : ∀ ns : List Int, RpA K B (ns.map V.int) (ns.map PyData.int)
  | [] => .nil
  | n :: ns => .cons (.int n) (rpA_ints ns)
theorem df_sc (i : Nat) {m : Nat} {pn p2 kp : Pos} {j : Nat} (hk : p.K = X.K) (hn : PE X (.Name x pn) (tVar i)) : PE X (.Subscript (.Name x pn) (.Slice none (some (.Constant (.int (m : Int)) j kp)) none p2) pos) (dF p (lSc i m)) :=
  (pe_slice sl_list hn po_none (po_some pe_int)).imp fun σ H Q ⟨B, ρ, c, S, md⟩ => by
    unfold lSc at md
    split at md
    · rename_i ns e
      obtain ⟨o, e1, a', e2, e3⟩ := S.slot i _ e
      subst e2
      refine ⟨_, e1, (m : Int), rfl, a', _, rfl, hk ▸ S.sub.seq e3, ?_⟩
      have ec : cutV (ns.map V.int) none (some (m : Int)) = (ns.take m).map V.int := by
        unfold cutV
        rw [HT.sIx_none, HT.sIx_nat, List.drop_zero, Nat.sub_zero, List.map_take]
        rw [List.take_eq_take_iff]
        simp
      rw [ec]
      exact fresh_of S (rpA_ints _) md
    · exact md.elim

/-! ### at = [0]: the cell is made, the rest goes on with it -/
def sCel (i : Nat) (g : FS) : FS := fun ρ c => match g ((blkE ρ []).set i .ce) 0 with
  | .ok (.rt d) _ => .ok (.rt d) c
  | _ => .no
theorem Sta.toCell {K : PySem.W.Frag} {B H : Hp} {xt : List XC} {W : WX} {σ : St} {ρ : En} {c : Int} {a : Addr} (S : Sta ⟨K, none, B, H, xt, W, none, n⟩ B H σ ρ c) (ha : H a = some (.lst [.int 0])) (hb : B a = none) (i : Nat) :
    Sta ⟨K, some a, B, H, xt, W, none, n⟩ B H (σ.set i (some (.ref a))) (ρ.set i .ce) 0 := by
  refine ⟨S.sub, S.ext, fun b h => .inl h, fun b o e _ => e, fun b e => ?_, by rw [List.length_set, List.length_set]; exact S.len, by rw [List.length_set]; exact S.ln, fun j s e => ?_, fun j k b ds es e1 _ e3 _ => ?_⟩
  · cases e
    exact ⟨ha, hb, fun z => by have z' : H a = none := z; rw [ha] at z'; cases z'⟩
  · by_cases hj : i = j
    · subst hj
      have hl : i < ρ.length := by have := (List.getElem?_eq_some_iff.mp e).1; rw [List.length_set] at this; exact this
      rw [List.getElem?_set_self hl] at e
      cases e
      exact ⟨_, List.getElem?_set_self (by rw [S.len]; exact hl), a, rfl, rfl⟩
    · rw [List.getElem?_set_ne hj] at e
      obtain ⟨o, k1, k2⟩ := S.slot j s e
      refine ⟨o, by rw [List.getElem?_set_ne hj]; exact k1, ?_⟩
      cases s with
      | un => exact k2
      | dt d => exact k2
      | ow ds => obtain ⟨b, xs, q1, q2, q3, q4, q5⟩ := k2; have q4' : H b = none := q4; rw [q2] at q4'; cases q4'
      | ce => obtain ⟨b, q1, _⟩ := k2; cases q1
      | xn x => exact k2
      | sc ns => exact k2
  · exfalso
    by_cases hj : i = j
    · subst hj
      have hl : i < ρ.length := by have := (List.getElem?_eq_some_iff.mp e1).1; rw [List.length_set] at this; exact this
      rw [List.getElem?_set_self hl] at e1
      cases e1
    · rw [List.getElem?_set_ne hj] at e1
      obtain ⟨o, k1, b, xs, q1, q2, q3, q4, q5⟩ := S.slot j _ e1
      have q4' : H b = none := q4
      rw [q2] at q4'
      cases q4'
theorem dss_newcell {pos' kp lp : Pos} {j : Nat} {rest : List Stmt} {g : FS} {K : PySem.W.Frag} {B0 H0 : Hp} {xt : List XC} {W : WX} (Z : Cz X ⟨K, none, B0, H0, xt, W, none, n⟩ k) (hi : X.N[i]? = some x) (hx : Loc X.env.scope x)
    (h : ∀ (a : Addr) (B H : Hp), Cz X ⟨K, some a, B, H, xt, W, none, n⟩ k → PSs X rest (dS ⟨K, some a, B, H, xt, W, none, n⟩ g)) (hst : starEach [.Constant (.int 0) j kp] X.env = (false, eval (.Constant (.int 0) j kp) X.env) :: starEach [] X.env := by rfl)
    (hs : swapsWith (.List [.Constant (.int 0) j kp] lp) (some (.Name x pos')) pos.line X.env = pure false := by rfl) (hf : X.fn x = true ∨ X.env.scope.names.lookup x = some .local := by first | exact .inl rfl | exact .inr rfl | assumption) :
    PSs X (.Assign [.Name x pos'] (.List [.Constant (.int 0) j kp] lp) pos :: rest) (dS ⟨K, none, B0, H0, xt, W, none, n⟩ (sCel i g)) := by
  have hr : PSs X rest (fun D σ H => ∃ a B H1, dS ⟨K, some a, B, H1, xt, W, none, n⟩ g D σ H) :=
    ⟨fun pins s σ H D I ⟨a, B, H1, q⟩ => (h a B H1 ⟨Z.hk, Z.room, Z.gd, Z.calm, Z.nd, Z.tk, Z.po⟩).run pins s σ H D I q⟩
  refine (pss_cons (ps_set (i := i) Z.nd hi hx (pe_lst (pa_cons pe_int pa_nil hst)) hs hf) hr).imp fun D σ H ⟨B, ρ, c, S, m⟩ => ?_
  refine ⟨show 1 ≤ sizeLine by rw [sizeLine_eq]; decide, fun a na => ?_⟩
  have S1 := S.grow (Gw.held S.sub (a := a) (.lst [V.int 0]) na)
  have S2 := S1.block [] W
  have S3 := Sta.toCell S2 upd_same (S.sub.free na) i
  refine ⟨a, B, _, B, _, 0, S3, ?_⟩
  unfold sCel at m
  generalize g ((blkE ρ []).set i .ce) 0 = r at m
  match r, m with
  | .ok (.rt d) c', m =>
    intro v σ' ρ' B' H' S' s' r'
    refine m v σ ρ B' H' (S.call ⟨S'.ext, S'.sub, fun b q => ?_, fun b o e _ => ?_⟩ fun b e => nomatch e) s' r'
    · rcases S'.new b q with z | z
      · exact .inl z
      · have z' : upd H a (.lst [V.int 0]) b = none := z
        by_cases hb : b = a
        · subst hb; exact .inr na
        · rw [upd_ne hb] at z'; exact .inr z'
    · refine S'.keep b o ?_ fun z => ?_
      · show upd H a (.lst [V.int 0]) b = some o
        rw [upd_ne (ne_of_none e na)]; exact e
      · cases z; rw [na] at e; cases e
  | .ok (.nx _) _, m => exact m.elim
  | .ok (.bk _) _, m => exact m.elim
  | .ok (.ct _) _, m => exact m.elim
  | .ex _ _, m => exact m.elim
  | .no, m => exact m.elim

/-! ### a list of functions, one of them called -/
def tCallG (X : Cx) (p : Par) (k n : Nat) (te : TE) (ta : TA) : TE := fun σ H Q => te σ H fun v H1 => ∃ f fd ps m, v = .ref f ∧ PySem.W.keepIn X.K (.ref f) = true ∧ Binds X.K fd ps [] ∧ FnG X.prog X.w X.K X.mg X.base k f fd ps (spD X.K p.C p.xt n m) ∧
  ta σ H1 fun vs H2 => spD X.K p.C p.xt n m vs H2 Q (fun cls d H' => p.W cls d σ H')
theorem pe_callX {fe : Expr} {es : List Expr} {te : TE} {ta : TA} (Z : Cz X p kz) (hkz : k ≤ kz) (hf : PE X fe te) (ha : PA X (a :: es) ta)
    (ht : eval (.Call fe (a :: es) [] pos) X.env = (do callWith pos (← eval fe X.env) [] (backTo pos (starEach (a :: es) X.env)) (backToKw pos (keywordEach [] X.env))) := by rfl)
    (he : starEach (a :: es) X.env = (false, eval a X.env) :: starEach es X.env := by rfl) (hpl : (backTo pos (starEach es X.env)).any (·.1) = false := by rfl) : PE X (.Call fe (a :: es) [] pos) (tCallG X p k n te ta) := by
  refine ⟨fun pins s σ H Q I h => ?_⟩
  refine Call_ (thn (hf.run pins s σ H _ I h) fun u s1 ⟨y, H1, I1, ry, f, fd, ps, m, ey, hkp, hb, F, q⟩ => ?_) ht
  subst ey
  obtain rfl : u = Value.ref f := ry
  refine PySem.W.callWith_K (h₀ := X.base) I1.ok.mod.kin hkp (thn (ha.run pos pins s1 σ H1 _ I1 q) fun us s2 hz => ?_) he hpl
  obtain ⟨vs, H2, I2, r, q2⟩ := hz
  exact ⟨I2.kIn, run_G F (Z.room.mono hkz) Z.gd hb Z.tk I2 r q2⟩
inductive FnL (X : Cx) (p : Par) (k n : Nat) : List Expr → List MF → Prop
  | nil : FnL X p k n [] []
  | cons {x : Str} {pp : Pos} {es : List Expr} {m : MF} {ms : List MF} (hg : Gl X x) (G : Kn X.prog X.w X.K X.mg X.base p.C p.xt x k n m) (hdb : (x == ("__debug__" : Str)) = false) (hs : starEach (.Name x pp :: es) X.env = (false, eval (.Name x pp) X.env) :: starEach es X.env) (r : FnL X p k n es ms) :
      FnL X p k n (.Name x pp :: es) (m :: ms)
theorem fnl_pa {es : List Expr} {ms : List MF} (h : FnL X p k n es ms) : ∃ vs : List V, PA X es (fun σ H Q => Q vs H) ∧ vs.length = ms.length ∧ ∀ (j : Nat) (m : MF), ms[j]? = some m → ∃ f fd ps, vs[j]? = some (.ref f) ∧ PySem.W.keepIn X.K (.ref f) = true ∧ Binds X.K fd ps [] ∧
    FnG X.prog X.w X.K X.mg X.base k f fd ps (spD X.K p.C p.xt n m) := by
  induction h with
  | nil => exact ⟨[], pa_nil, rfl, fun j m e => by simp at e⟩
  | cons hg G hdb hs r ih =>
    obtain ⟨f, fd, ps, hn, hm, hkp, hb, F⟩ := G.ex
    obtain ⟨vs, h1, h2, h3⟩ := ih
    refine ⟨.ref f :: vs, (pa_cons (pe_glob (v := .ref f) hg hm rfl hdb) h1 hs).imp fun σ H Q q => q, by simp [h2], fun j m e => ?_⟩
    cases j with
    | zero => simp at e; subst e; exact ⟨f, fd, ps, rfl, hkp, hb, F⟩
    | succ j => simpa using h3 j m (by simpa using e)
def atF (ms : List MF) : PyData → Option MF
  | .int j => atI ms j
  | _ => none
def sSel (i : Nat) (ms : List MF) (fi : FE) (fa : FA) : FS := fun ρ c => if lineOk ms.length && decide (i < ρ.length) then (fi (ρ.set i .un) c).bind fun d c1 => match atF ms d with
  | some m => (fa (ρ.set i .un) c1).bind fun ss c2 => (m ss c2).bind fun e c3 => .ok (.rt e) c3
  | none => .no
  else .no
theorem Sta.setUn {B H : Hp} {σ : St} {ρ : En} {c : Int} (S : Sta p B H σ ρ c) (i : Nat) (o : Option V) : Sta p B H (σ.set i o) (ρ.set i .un) c := by
  refine ⟨S.sub, S.ext, S.new, S.keep, S.cel, by rw [List.length_set, List.length_set]; exact S.len, by rw [List.length_set]; exact S.ln, fun j s e => ?_, fun j k b ds es e1 e2 e3 e4 => ?_⟩
  · by_cases hj : i = j
    · subst hj
      have hl : i < ρ.length := by have := (List.getElem?_eq_some_iff.mp e).1; rw [List.length_set] at this; exact this
      rw [List.getElem?_set_self hl] at e
      cases e
      exact ⟨_, List.getElem?_set_self (by rw [S.len]; exact hl), trivial⟩
    · rw [List.getElem?_set_ne hj] at e
      obtain ⟨o', k1, k2⟩ := S.slot j s e
      exact ⟨o', by rw [List.getElem?_set_ne hj]; exact k1, k2⟩
  · have gone : ∀ {j : Nat} {ds : List PyData}, (ρ.set i .un)[j]? = some (.ow ds) → i ≠ j := fun {j ds} e z => by
      subst z
      have hl : i < ρ.length := by have := (List.getElem?_eq_some_iff.mp e).1; rw [List.length_set] at this; exact this
      rw [List.getElem?_set_self hl] at e
      cases e
    have hj := gone e1
    have hk := gone e2
    rw [List.getElem?_set_ne hj] at e1 e3
    rw [List.getElem?_set_ne hk] at e2 e4
    exact S.apart j k b ds es e1 e2 e3 e4
theorem dss_sel {es as : List Expr} {ms : List MF} {fi : FE} {fa : FA} {pr lp spos pr2 ps cpos rpos : Pos} {ix : Expr} (Z : Cz X p kz) (hkz : k ≤ kz) (hi : X.N[i]? = some x) (hx : Loc X.env.scope x) (hF : FnL X p k n es ms) (hl : FALen fa n)
    (hv : PE X (.Name x pr2) (tVar i)) (hix : PE X ix (dE p fi)) (hp : PlainIx ix) (ha : PA X (a :: as) (dA p fa))
    (hs : swapsWith (.List es lp) (some (.Name x pr)) spos.line X.env = pure false := by rfl) (hf : X.fn x = true ∨ X.env.scope.names.lookup x = some .local := by first | exact .inl rfl | exact .inr rfl | assumption)
    (ht : eval (.Call (.Subscript (.Name x pr2) ix ps) (a :: as) [] cpos) X.env = (do callWith cpos (← eval (.Subscript (.Name x pr2) ix ps) X.env) [] (backTo cpos (starEach (a :: as) X.env)) (backToKw cpos (keywordEach [] X.env))) := by rfl)
    (he : starEach (a :: as) X.env = (false, eval a X.env) :: starEach as X.env := by rfl) (hpl : (backTo cpos (starEach as X.env)).any (·.1) = false := by rfl) :
    PSs X [.Assign [.Name x pr] (.List es lp) spos, .Return (some (.Call (.Subscript (.Name x pr2) ix ps) (a :: as) [] cpos)) rpos] (dS p (sSel i ms fi fa)) := by
  obtain ⟨fs, h1, h2, h3⟩ := fnl_pa hF
  refine (pss_cons (ps_set (i := i) Z.nd hi hx (pe_lst h1) hs hf) (pss_one (ps_ret (pe_callX (n := n) Z hkz (pe_ix ix_list hv hix hp) ha ht he hpl)))).imp fun D σ H ⟨B, ρ, c, S, m⟩ => ?_
  unfold sSel at m
  split at m
  · rename_i hz0
    obtain ⟨hz, hi0⟩ := Bool.and_eq_true_iff.mp hz0
    refine ⟨by rw [h2]; exact lineOk_le hz, fun g ng => ?_⟩
    have G := Gw.new S.sub (.lst fs) ng
    have S1 := (S.grow G).setUn i (some (.ref g))
    have hi' : i < σ.length := by rw [S.len]; exact of_decide_eq_true hi0
    refine ⟨.ref g, List.getElem?_set_self hi', upd B g (.lst fs), _, c, S1, PostS.bE (PostS.from m G.b) fun d c1 v B1 H1 S2 r2 s2 m2 => ?_⟩
    unfold atF at m2
    cases d with
    | int j =>
      simp only at m2
      cases q : atI ms j with
      | none => rw [q] at m2; exact m2.elim
      | some mf =>
        rw [q] at m2
        have e1 : H1 g = some (.lst fs) := S2.sub _ _ (s2 _ _ upd_same)
        unfold atI at q
        cases q3 : ixN ms.length j with
        | none => rw [q3] at q; cases q
        | some jn =>
          rw [q3] at q
          obtain ⟨f, fd, ps', k1, k2, k3, k4⟩ := h3 jn mf q
          refine ⟨g, fs, j, .ref f, rfl, r2.of_int, SqL.of e1, by unfold atI; rw [h2, q3]; exact k1, f, fd, ps', mf, rfl, k2, k3, Z.hk ▸ k4, B1, _, c1, S2, ?_⟩
          cases q5 : fa (ρ.set i .un) c1 with
          | no => rw [q5] at m2; exact m2.elim
          | ex y c2 => rw [q5] at m2; exact fun B3 H3 cls d S3 z e => m2 _ _ B3 H3 cls d S3 z e
          | ok ss c2 =>
            rw [q5] at m2
            intro vs B3 H3 S3 s3 a3
            refine Z.hk ▸ spD_of S3 a3 (hl _ _ _ _ q5) (PostS.bE (PostS.from m2 s3) fun e c4 v4 B4 H4 S4 r4 s4 m4 => ?_)
            exact m4 v4 _ _ B4 H4 S4 (Same.refl _) r4
    | _ => exact m2.elim
  · exact m.elim
end
end DL
end L2

set_option Elab.async false
set_option linter.all false
set_option maxRecDepth 100000
set_option maxHeartbeats 1000000
/-! The law's end: the def's promise FnG (no guards) is met at the top's own call. -/
namespace L2
open PySem PySem.Spec PyProof.Rows
namespace DL
section
variable {P : Program} {w : World} {K : PySem.W.Frag} {mg mb : Str → Option Value} {t : Shared} {b : Addr} {us : List Value} {is : List Int} {G : Hp}
/-- the script's own object as the abstract heap G knows it: nowhere else anything -/
structure Sole (P : Program) (w : World) (K : PySem.W.Frag) (h : Heap) (b : Addr) (is : List Int) (G : Hp) : Prop where
  sq : SqL K G b (is.map V.int)
  ok : HOk P w G h
  only : ∀ a, G a ≠ none → a = b ∧ K.lookup a = none ∧ ∃ o xs, G a = some (.frz o (.lst xs))
theorem Sole.free (S : Sole P w K t.heap b is G) (hb : t.heap.get? b = some { cls := .type "list", data := .seq us.toArray }) {a : Addr} {o : Obj} {es : Array DictEntry} {n : Nat} (e : t.heap.get? a = some o) (d : o.data = .dict es n) : G a = none := by
  by_cases q : G a = none
  · exact q
  · obtain ⟨rfl, _⟩ := S.only a q
    rw [hb] at e
    cases e
    cases d
theorem Sole.ns (S : Sole P w K t.heap b is G) (hb : t.heap.get? b = some { cls := .type "list", data := .seq us.toArray }) {a : Addr} {m : Str → Option Value} (h : t.heap.Ns a m) : (hidT t.heap G).Ns a m := by
  obtain ⟨o, es, n, e, d, r⟩ := h
  exact ⟨o, es, n, hidT_get e (S.free hb e d), d, r⟩
theorem Sole.kin (S : Sole P w K t.heap b is G) (X : K.In t.heap) : K.In (hidT t.heap G) := fun a o e => hidT_get (X a o e) (by
  by_cases q : G a = none
  · exact q
  · have z := (S.only a q).2.1
    rw [z] at e
    cases e)
theorem Sole.env (S : Sole P w K t.heap b is G) (hb : t.heap.get? b = some { cls := .type "list", data := .seq us.toArray }) (X : K.In t.heap) (hn : t.heap.Ns mainGlobals mg) (hbn : t.heap.Ns builtinsNs mb) (hbb : ∀ x : Str, x ≠ "__name__" → mb x = bootBuiltins x) (hl : t.heap.NoLimit) (hg : t.gens = #[]) :
    Env0 P w K mg (hidT t.heap G) callerA [] t G where
  frames := rfl
  mod := ⟨S.kin X, S.ns hb hn, ⟨mb, S.ns hb hbn, hbb⟩, by obtain ⟨m, h1, h2⟩ := hl; exact ⟨m, S.ns hb h1, h2⟩⟩
  bs := fun a o e => of_hidT e
  bsz := by rw [hidT_size]; exact Nat.le_refl _
  funs := trivial
  frf := fun a z => by cases z
  hok := S.ok
  bare := .of_eq hg
/-- behind the call: the old objects stand -/
theorem Sole.old (S : Sole P w K t.heap b is G) {t' : Shared} {G' : Hp} (un : Un (frs ([] : List Env)) [] G G' t.heap t'.heap) (ok' : HOk P w G' t'.heap) : OldK t.heap t'.heap := OldK.of_keep fun a o e => by
  by_cases q : G a = none
  · exact un.keep a o e q (fun z => by cases z) (fun z => by cases z)
  · obtain ⟨_, _, oa, xs, z⟩ := S.only a q
    obtain ⟨k1, _⟩ := S.ok a _ z
    obtain ⟨k2, _⟩ := ok' a _ (un.frzs a oa _ z)
    rw [e] at k1
    cases k1
    exact k2
theorem sole_of (X : K.In t.heap) (hb : t.heap.get? b = some { cls := .type "list", data := .seq us.toArray }) (hi : IntsAre us is) (hz : is.length ≤ sizeLine) : ∃ G, Sole P w K t.heap b is G := by
  have r := vals_ints hi
  by_cases hk : K.lookup b = none
  · let G : Hp := fun a => if a = b then some (.frz { cls := .type "list", data := .seq us.toArray } (.lst (is.map V.int))) else none
    have at1 : G b = some (.frz { cls := .type "list", data := .seq us.toArray } (.lst (is.map V.int))) := if_pos rfl
    have at2 : ∀ a, a ≠ b → G a = none := fun a h => if_neg h
    refine ⟨G, .inl (.inr ⟨_, at1⟩), fun a u e => ?_, fun a q => ?_⟩
    · by_cases h : a = b
      · subst h
        rw [at1] at e
        cases e
        exact ⟨hb, by rw [List.length_map]; exact hz, us, _, r, hb⟩
      · rw [at2 a h] at e; cases e
    · by_cases h : a = b
      · subst h; exact ⟨rfl, hk, _, _, at1⟩
      · exact absurd (at2 a h) q
  · obtain ⟨o, ho⟩ := Option.ne_none_iff_exists'.mp hk
    have e := X b o ho
    rw [hb] at e
    cases e
    refine ⟨fun _ => none, .inr ⟨_, us.toArray, _, ho, rfl, rfl, rfl, by rw [List.size_toArray, hi.length]; exact hz, by simpa using r⟩, fun a u e => (by cases e), fun a q => absurd rfl q⟩
end
/-- THE END of a walk: the law's def, its meaning true at every script -/
theorem walk_dl {l : PySem.W.OpenLaw} {n k : Nat} {q : Program} {loose : List Str} {XP : (Str → Option Value) → Heap → Prop} {YP : World → Heap → Prop} {d : DefRec} {K : Params → PySem.W.Frag} {x : Str} {m : MF} (hn : l.most = some n) (hsz : n ≤ sizeLine) (hdf : d.params.defaults = [])
    (hr : Room k callerA) (hgd : callerA.guards = some []) (hY : ∀ (w : World) (h : Heap), YP w h → (K w.params).In h)
    (F : ∀ (w : World) (mg : Str → Option Value) (fa : Addr) (h : Heap), (K w.params).In h → h.Ns mainGlobals mg → mg d.name = some (.ref fa) →
      ∃ (fd : FuncData) (xt : List XC), (∀ (s : Shared) (u : Value), BindsTo s fd ⟨[u], []⟩ [(x, u)]) ∧ ∀ base : Heap, (K w.params).In base → base.Ns mainGlobals mg → FnG l.prog w (K w.params) mg base k fa fd [x] (spD (K w.params) none xt 1 m))
    (true_ : ∀ is : List Int, is.length ≤ n → ∃ c, m [.sc is] 0 = .ok (.bool true) c) : PySem.W.WalkO q loose XP YP l.row.toRowW d [] (fun f vs => PySem.call f vs) := by
  refine Att.attach_call hn hdf fun w t0 t mg mb fa o pm cd doc b us is G Y ho hd hcd hmg hobj hints hlen hgens => ?_
  have X := hY w _ Y
  obtain ⟨fd, xt, hbind, hF⟩ := F w mg fa _ X G.T.g hmg
  obtain ⟨H, S⟩ := sole_of (P := l.prog) (w := w) X hobj hints (Nat.le_trans hlen hsz)
  obtain ⟨c, hm⟩ := true_ is hlen
  have go := (hF _ (S.kin X) (S.ns hobj G.T.g)).run callerA [] t H ⟨[.ref b], []⟩ [.ref b] [.ref b] (fun v _ => v = .bl true) (fun _ _ _ => False) hr hgd (S.env hobj X G.T.g G.T.b G.T.builtins G.T.nolimit hgens) (hbind t (.ref b)) (.cons rfl .nil)
    ⟨rfl, H, [.sc is], 0, Same.refl _, fun _ z => (nomatch z), fun _ z => (nomatch z), .cons ⟨b, rfl, S.sq⟩ .nil, by rw [hm]; exact fun v B' H' _ _ r => by cases r; rfl⟩
  refine codeAny_mono go fun r t' h => ?_
  match r, h with
  | .error e, ⟨_, _, _, _, _, _, _, _, _, _, _, _, z⟩ => exact z.elim
  | .ok .next, h => exact False.elim h
  | .ok .brk, h => exact False.elim h
  | .ok .cont, h => exact False.elim h
  | .ok (.ret u), ⟨v, H', os, bare, un, ok', rv, qv⟩ =>
    have qv' : v = .bl true := qv
    subst qv'
    obtain rfl : u = Value.bool true := rv
    exact ⟨rfl, S.old un ok', os, bare⟩
end DL
end L2

set_option Elab.async false
set_option linter.all false
set_option maxRecDepth 100000
set_option maxHeartbeats 1000000
namespace L2
open PySem PySem.Spec PyProof.Rows
namespace DL
abbrev Cz.ctx {X : Cx} {p : Par} {k : Nat} (_ : Cz X p k) : Cx := X
section
variable {X : Cx} {K : PySem.W.Frag} {C : Option Addr} {B0 H0 : Hp} {xt : List XC} {W : WX} {k n : Nat} {pos : Pos} {elt tg iter : Expr} {ifs : List Expr} {scope : Scope} {own : List (Str × Nat)} {fi : FL} {t : FG} {ft : FT} {fe : FE}
def sOz (i : Nat) (fl : FL) : FS := fun ρ c => (fl ρ c).bind fun ds c1 => .ok (.nx (ρ.set i (.dt (.list ds)))) c1
/-- y = [..], at once frozen -/
theorem ds_lcz {i : Nat} {y : Str} {py spos : Pos} (Z : Cz X ⟨K, C, B0, H0, xt, W, none, n⟩ k) (hy : X.N[i]? = some y) (hyl : X.env.scope.names.lookup y = some .local)
    (hsw : swapsWith (.ListComp elt [⟨tg, iter, ifs, 0⟩] scope pos) (some (.Name y py)) spos.line X.env = pure true) (hi : PI X tg iter (dI ⟨K, C, B0, H0, xt, W, none, n⟩ fi)) (ok : BlkOk X.N X.env.scope scope own)
    (hg : ∀ (s : Shared) (H : Hp) (Cc : Addr) (cl : List (Str × Addr)) (fp : List Addr) (B1 H1 : Hp), Cz (X.blk s H scope (compEnvC scope cl Cc X.env) fp) ⟨K, C, B1, H1, xt, W0, none, n⟩ k → PG (X.blk s H scope (compEnvC scope cl Cc X.env) fp) tg (dG ⟨K, C, B1, H1, xt, W0, none, n⟩ (own.map (·.2)) t))
    (ht : ∀ (s : Shared) (H : Hp) (Cc : Addr) (cl : List (Str × Addr)) (fp : List Addr) (B1 H1 : Hp), Cz (X.blk s H scope (compEnvC scope cl Cc X.env) fp) ⟨K, C, B1, H1, xt, W0, none, n⟩ k → PTs (X.blk s H scope (compEnvC scope cl Cc X.env) fp) ifs (dT ⟨K, C, B1, H1, xt, W0, none, n⟩ ft))
    (he : ∀ (s : Shared) (H : Hp) (Cc : Addr) (cl : List (Str × Addr)) (fp : List Addr) (B1 H1 : Hp), Cz (X.blk s H scope (compEnvC scope cl Cc X.env) fp) ⟨K, C, B1, H1, xt, W0, none, n⟩ k → PE (X.blk s H scope (compEnvC scope cl Cc X.env) fp) elt (dE ⟨K, C, B1, H1, xt, W0, none, n⟩ fe))
    (hs : ∀ x, foldedSetIterable iter X.env x = pure x := by intro _; rfl) :
    PS X (.Assign [.Name y py] (.ListComp elt [⟨tg, iter, ifs, 0⟩] scope pos) spos) (dS ⟨K, C, B0, H0, xt, W, none, n⟩ (sOz i (lComp fi (own.map (·.2)) t ft fe))) :=
  (ps_setLc (i := i) Z.calm Z.nd hy hyl hsw hi ok (g := anG K C xt n (own.map (·.2)) t) (tt := anT K C xt n ft) (te := anE K C xt n fe)
    (fun s H Cc cl fp => ⟨fun pins s' σ H' v u Q I r ⟨B1, H1, z⟩ => (hg s H Cc cl fp B1 H1 (Z.blk s H Cc cl fp B1 H1)).run pins s' σ H' v u Q I r z⟩)
    (fun s H Cc cl fp => ⟨fun pins s' σ H' Q I ⟨B1, H1, z⟩ => (ht s H Cc cl fp B1 H1 (Z.blk s H Cc cl fp B1 H1)).run pins s' σ H' Q I z⟩)
    (fun s H Cc cl fp => ⟨fun pins s' σ H' Q I ⟨B1, H1, z⟩ => (he s H Cc cl fp B1 H1 (Z.blk s H Cc cl fp B1 H1)).run pins s' σ H' Q I z⟩) hs).imp fun D σ H ⟨B, ρ, c, S, m⟩ =>
    comp_ok (Q := fun x H1 => gName i x σ H1 D.nx) ⟨B, ρ, c, S, PostS.bL m fun ds c1 a xs B1 H1 S1 s1 e1 e2 e3 u r m1 => by
      obtain ⟨S2, s2⟩ := S1.freeze1 e1 e2 e3 u
      exact m1 _ _ H1 (S2.set (.lst upd_same (r.mono s2))) s2⟩
/-- what a clause catches, class by class -/
abbrev Catches (K : PySem.W.Frag) (xt : List XC) (c : Value) (ns : List Nat) : Prop := ∀ (m : Nat) (C : Addr) (nm : List Str), xt[m]? = some ⟨C, nm⟩ → PySem.W.exmOne K (.ref C) c = some (decide (m ∈ ns))
/-- classes of the program in a clause, in isinstance -/
theorem kit_up {K : PySem.W.Frag} {D C : Addr} {cd : ClassData} (h1 : PySem.W.clsIn K C = some cd) (h2 : PySem.W.typeIn K (.ref C) = some (.type "type")) (h3 : PySem.W.subIn K (.ref D) (.ref C) = some true) : PySem.W.kitOne K (.ref D) (.ref C) = some true := by
  unfold PySem.W.kitOne
  split
  · rfl
  · unfold PySem.W.kitCls
    show (if ((PySem.W.clsIn K C).isSome && PySem.W.typeIn K (.ref C) == some (.type "type")) = true then PySem.W.subIn K (.ref D) (.ref C) else none) = some true
    rw [h1, h2]
    exact h3
theorem xat_of {K : PySem.W.Frag} {xt : List XC} {nm : Str} (h : ∀ q ∈ xt, XfC K q.C ∧ (nm ∈ q.ns → PySem.W.findIn K (.ref q.C) nm = some none)) : XatOk K xt nm := ⟨fun m C ns e => h ⟨C, ns⟩ (List.mem_of_getElem? e)⟩
end
end DL
end L2

set_option Elab.async false
set_option linter.all false
set_option maxRecDepth 100000
set_option maxHeartbeats 1000000
namespace L2
open PySem PySem.Spec PyProof.Rows
namespace DL
/-! ### a def that is called in an except suite, of the exception at hand -/
abbrev MX := Xn → Int → R PyData
/-- what such a def is promised: its one argument is the object p, an error of the table -/
def spX (K : PySem.W.Frag) (C : Option Addr) (xt : List XC) (m : MX) (p : Addr × Obj) : Sp := fun vs H Q E => ∃ (B : Hp) (c : Int) (x : Xn) (D dd : Addr) (ns : List Str) (ws : List V), vs = [.ref p.1] ∧ Same B H ∧ CelOk C H c ∧ (∀ a, C = some a → B a = none) ∧
  Zc (.ref D) (some dd) p.2 ∧ (∃ fv, p.2.data = .fields fv) ∧ xt[x.n]? = some ⟨D, ns⟩ ∧ H dd = some (.xd (ns.zip ws)) ∧ RpA K B ws x.fs ∧ ns.length = ws.length ∧ PostF K C xt B H Q E (m x c)
structure FnX (P : Program) (w : World) (K : PySem.W.Frag) (mg : Str → Option Value) (base : Heap) (k : Nat) (f : Addr) (fd : FuncData) (ps : List Str) (sp : Addr × Obj → Sp) : Prop where
  run : ∀ (A : Around) (outer : List Env) (s : Shared) (H : Hp) (args : Args) (us : List Value) (vs : List V) (Q : VK) (E : XK) (p : Addr × Obj), L2H.RoomH k A → L2H.PinOk outer H s p → Env0 P w K mg base A outer s H → BindsTo s fd args (ps.zip us) → Vals vs us → us.length = ps.length → sp p vs H Q E →
    codeAny (model P w) A (.call (.ref f) args) (CR (L2.CX P w) outer P w H s Q E) s
structure KnX (P : Program) (w : World) (K : PySem.W.Frag) (mg : Str → Option Value) (base : Heap) (C : Option Addr) (xt : List XC) (x : Str) (k : Nat) (m : MX) : Prop where
  ex : ∃ f fd ps, ps.length = 1 ∧ mg x = some (.ref f) ∧ PySem.W.keepIn K (.ref f) = true ∧ Binds K fd ps [] ∧ FnX P w K mg base k f fd ps (spX K C xt m)
section
variable {P : Program} {w : World} {K : PySem.W.Frag} {mg : Str → Option Value} {base : Heap} {C : Option Addr} {xt : List XC}
theorem fnX_of {k : Nat} {f : Addr} {nm qual : Str} {params : Arguments} {body : List Stmt} {scope : Scope} {dV kV doc pm cdv ct oc : Value} {an od : Option Addr} {osl : Array (Option Value)} {N ps : List Str} {sp : Addr × Obj → Sp}
    (lk : K.lookup f = some ⟨oc, od, .func (PySem.W.fnOf nm qual params body scope dV kV doc pm an cdv ct), osl⟩) (hcd : PySem.W.codeIn K cdv qual = true) (S : FnScope N ps scope)
    (hbody : ∀ (A : Around) (outer : List Env) (s : Shared) (H : Hp) (vs : List V) (Q : VK) (E : XK) (p : Addr × Obj), L2H.RoomH k (A.deeper (envOfC qual scope s.heap.objs.size f cdv)) → vs.length = ps.length → sp p vs H Q E →
      ∃ t, PSs (L2H.cxH (L2.CX P w) P w K mg base N qual scope f cdv A outer s H E p) body t ∧ t { nx := fun _ H' => Q .non H', rt := Q } (start N vs) H) :
    FnX P w K mg base (k + 1) f (PySem.W.fnOf nm qual params body scope dV kV doc pm an cdv ct) ps sp := by
  refine ⟨fun A outer s H args us vs Q E p hr hpin e0 hb r hlu hsp => ?_⟩
  have hl : vs.length = ps.length := r.length.trans hlu
  have KX : K.In s.heap := e0.mod.kin.keeps fun b o e => (e0.bs b o e).1
  have lim : s.heap.NoLimit := e0.mod.nolimit.keeps fun b o e => (e0.bs b o e).1
  have kinds : ∀ y ∈ ps.zip us, scope.names.lookup y.1 = some .local ∨ (scope.names.lookup y.1 = some .cell ∧ ((cellsFrom (s.heap.objs.size + 1) scope.names []).lookup y.1).isSome = true) := by
    rintro ⟨n, v⟩ hy
    rcases S.par n (List.of_mem_zip hy).1 with z | z
    · exact Or.inl z
    · exact Or.inr ⟨z, PySem.W.cellsFrom_some _ _ _ (Or.inl z)⟩
  refine codeAny_call_function hr.depth (KX _ _ lk) rfl S.co S.gen rfl (PySem.W.codeRec_of KX hcd) (hb _ _ _ _ ?_)
  refine wpAny_newFunctionEnv_cells S.kind kinds fun env he s1 x => ?_
  subst he
  refine ⟨lim.keeps x.toInCall.keep, codeAny_func ?_⟩
  obtain ⟨t, ht, hq⟩ := hbody A outer s H vs Q E p (hr.deeper _) hl hsp
  have I0 := L2H.inv_startH (CX := L2.CX P w) (E := E) (cd := cdv) (qual := qual) (f := f) S hpin e0 hl r x
  refine wpAny_mono (ht.run [] s1 (start N vs) H _ I0 hq) (fun fl s' hs => ?_) (fun e s' hs => hs)
  match fl, hs with
  | .ret u, ⟨v, σ', H', J, rv, q⟩ => exact ⟨v, H', J.os, J.bare, J.base, J.hok, rv, q⟩
  | .next, ⟨σ', H', J, q⟩ => exact ⟨V.non, H', J.os, J.bare, J.base, J.hok, rfl, q⟩
  | .brk, ⟨_, _, _, q⟩ => exact q.elim
  | .cont, ⟨_, _, _, q⟩ => exact q.elim
/-- its meaning, by its body's -/
def mXf (n : Nat) (g : FS) : MX := fun x c => match g (.xn x :: List.replicate (n - 1) .un) c with
  | .ok (.nx _) c' => .ok .none c'
  | .ok (.rt d) c' => .ok d c'
  | _ => .no
theorem sta_startX {B H : Hp} {N : List Str} {c : Int} {x : Xn} {a D dd : Addr} {ns : List Str} {ws : List V} (hn : 1 ≤ N.length) (sb : Same B H) (hc : CelOk C H c) (hB : ∀ a, C = some a → B a = none) (h1 : xt[x.n]? = some ⟨D, ns⟩) (h2 : H dd = some (.xd (ns.zip ws))) (h3 : RpA K B ws x.fs) (h4 : ns.length = ws.length) :
    Sta ⟨K, C, B, H, xt, W0, some (a, dd, D), N.length⟩ B H (start N [.ref a]) (.xn x :: List.replicate (N.length - 1) .un) c := by
  have hlen : (start N [V.ref a]).length = N.length := by
    unfold start
    simp
    omega
  refine ⟨sb, Same.refl _, fun b q => .inl q, fun b o e _ => e, fun b e => ⟨hc b e, hB b e, fun z => by have z' : H b = none := z; rw [hc b e] at z'; cases z'⟩, by rw [hlen]; simp; omega, hlen, fun i s e => ?_, fun i j b ds es e1 _ _ _ => ?_⟩
  · cases i with
    | zero =>
      simp at e
      subst e
      refine ⟨some (.ref a), by unfold start; simp, a, dd, D, ns, ws, rfl, rfl, h1, h2, fun z => ?_, h3, h4⟩
      have z' : H dd = none := z
      rw [h2] at z'
      cases z'
    | succ i =>
      simp only [List.getElem?_cons_succ, List.getElem?_replicate] at e
      split at e
      · cases e
        refine ⟨_, List.getElem?_eq_getElem (show i + 1 < (start N [V.ref a]).length by rw [hlen]; omega), trivial⟩
      · cases e
  · exfalso
    cases i with
    | zero => simp at e1
    | succ i =>
      simp only [List.getElem?_cons_succ, List.getElem?_replicate] at e1
      split at e1 <;> cases e1
theorem knX_of {x qual : Str} {st : Stmt} {f : Addr} {fd : FuncData} {N ps : List Str} {k : Nat} {g : FS} (F : Fun K x qual st f fd) (hm : mg x = some (.ref f)) (hb : Binds K fd ps []) (h1 : ps.length = 1) (S : FnScope N ps (defScope st))
    (body : ∀ (cdv : Value) (A : Around) (outer : List Env) (s : Shared) (H : Hp) (E : XK) (B : Hp) (a : Addr) (oe : Obj) (D dd : Addr), Zc (.ref D) (some dd) oe → (∃ fv, oe.data = .fields fv) →
      PSs (L2H.cxH (L2.CX P w) P w K mg base N qual (defScope st) f cdv A outer s H E (a, oe)) (defBody st) (dS ⟨K, C, B, H, xt, W0, some (a, dd, D), N.length⟩ g)) :
    KnX P w K mg base C xt x (k + 1) (mXf N.length g) := by
  refine ⟨f, fd, ps, h1, hm, F.kp, hb, ?_⟩
  obtain ⟨oc, od, kV, doc, pm, an, cdv, ct, osl, rfl, lk, hcd⟩ := F.ex
  refine fnX_of lk hcd S fun A outer s H vs Q E p hr hl hsp => ?_
  obtain ⟨a, oe⟩ := p
  obtain ⟨B, c, y, D, dd, ns, ws, rfl, sb, hc, hB, hz, hf, q1, q2, q3, q4, post⟩ := hsp
  have hpl : 1 ≤ N.length := by have := congrArg List.length S.pre; rw [List.length_take] at this; omega
  refine ⟨_, body cdv A outer s H E B a oe D dd hz hf, B, _, c, sta_startX hpl sb hc hB q1 q2 q3 q4, ?_⟩
  unfold mXf at post
  have out : ∀ {B' H' : Hp} {σ' : St} {ρ' : En} {c' : Int}, Sta ⟨K, C, B, H, xt, W0, some (a, dd, D), N.length⟩ B' H' σ' ρ' c' → Gr C B H B' H' ∧ CelOk C H' c' := fun {B' H' σ' ρ' c'} S' =>
    ⟨⟨S'.ext, S'.sub, S'.new, S'.keep⟩, fun a e => (S'.cel a e).1⟩
  generalize g (.xn y :: List.replicate (N.length - 1) .un) c = r at post
  match r, post with
  | .ok (.nx _) c', post => exact fun σ' B' H' S' s' => post .non B' H' (out S').1 (out S').2 .non
  | .ok (.rt d) c', post => exact fun v σ' ρ' B' H' S' s' r' => post v B' H' (out S').1 (out S').2 r'
  | .ex _ _, post => exact post.elim
  | .no, post => exact post.elim
  | .ok (.bk _) _, post => exact post.elim
  | .ok (.ct _) _, post => exact post.elim
end
section
variable {X : Cx} {p : Par}
/-- isinstance(e, X), e pinned -/
theorem call_isP {a C dd : Addr} {oe : Obj} (hp : (a, oe) ∈ X.pn) (T : XisOk X.K C) (T0 : XisK X.K) (hz : Zc (.ref C) (some dd) oe) (hf : ∃ vs, oe.data = .fields vs) : CallR X (.builtin "isinstance") (rIsX X.K C a dd) := by
  intro pins s σ H xs us Q I r h
  obtain ⟨c, cv, b, fs, rfl, hcv, e, hd, q⟩ := h
  cases r with
  | cons rx rr =>
    cases rr with
    | cons rt rr =>
      cases rr
      cases rx
      have ec := hcv _ rt
      subst ec
      obtain ⟨hget, _⟩ := I.pin (a, oe) (List.mem_append_left _ hp)
      obtain ⟨vs, hv⟩ := hf
      obtain ⟨mA, hns, hr⟩ : ObjOk X.prog X.w H s.heap dd (.xd fs) := I.hok dd _ hd
      obtain ⟨od, ho, hl⟩ := lookIn_ns hns
      have J : PySem.W.InstAt s.heap a oe C (some od) := ⟨hget, hz.1, by unfold PySem.W.notCls; rw [hv] <;> rfl, by rw [hz.2]; exact ho⟩
      exact PySem.W.kia_one (PySem.W.kitx_exc T.cl T.xf.ga T.xf.gg T.xf.exC T.ha T0.hn T0.ht T.hm) I.kIn J e (fun z => nomatch z) fun tk => ⟨.bl b, H, I.kept (t' := tk) fun _ _ z => z, rfl, q⟩
theorem pe_xisP {ns : List Nat} {i n : Nat} {x en : Str} {pn2 pn3 pp pos : Pos} {a : Addr} {oe : Obj} {C dd : Addr} {K : PySem.W.Frag} {Cel : Option Addr} {B0 H0 : Hp} {xt : List XC} {cv : Value} {v : V} (hp : (a, oe) ∈ X.pn) (hk : K = X.K) (hx : ∀ (m : Nat) (C : Addr) (ns' : List Str), xt[m]? = some ⟨C, ns'⟩ → XisOk K C ∧ PySem.W.kitOne K (.ref C) cv = some (decide (m ∈ ns)))
    (hrel : ∀ u, RelV v u → u = cv) (T0 : XisK X.K) (hz : Zc (.ref C) (some dd) oe) (hf : ∃ vs, oe.data = .fields vs) (hg : Gl X "isinstance") (hm : X.mg "isinstance" = none) (hn : PE X (.Name en pn2) (tVar i)) (hc : PE X (.Name x pn3) (tC v))
    (he : starEach ((.Name en pn2) :: [.Name x pn3]) X.env = (false, eval (.Name en pn2) X.env) :: starEach [.Name x pn3] X.env := by rfl) (he2 : starEach ((.Name x pn3) :: []) X.env = (false, eval (.Name x pn3) X.env) :: starEach [] X.env := by rfl)
    (hpl : (backTo pos (starEach [.Name x pn3] X.env)).any (·.1) = false := by rfl) :
    PE X (.Call (.Name "isinstance" pp) [.Name en pn2, .Name x pn3] [] pos) (dE ⟨K, Cel, B0, H0, xt, W0, some (a, dd, C), n⟩ (fXis ns i)) := by
  refine ⟨fun pins s σ H Q I h => ?_⟩
  obtain ⟨B, ρ, c, S, m⟩ := h
  unfold fXis at m
  split at m
  · rename_i y e
    obtain ⟨o, e1, a', dd', C', ns', vs, k1, k2, k3, k4, k5, k6, k7⟩ := S.slot i _ e
    cases k1
    subst k2
    obtain ⟨T, T2⟩ := hx _ _ _ k3
    refine (pe_callB (call_isP hp (hk ▸ T) T0 hz hf) hg hm (by decide +kernel) (pa_cons hn (pa_cons hc pa_nil he2) he) (by decide) (by decide) he hpl).run pins s σ H Q I ?_
    exact ⟨_, e1, v, cv, _, _, rfl, hrel, hk ▸ T2, k4, m _ B H S (Same.refl _) (.bl _)⟩
  · exact m.elim
/-- f(e) in a suite, e the exception at hand -/
def fXcall (m : MX) (i : Nat) : FE := fun ρ c => match ρ[i]? with
  | some (.xn x) => (match m x c with
    | .ok d c' => .ok d c'
    | _ => .no)
  | _ => .no
theorem pe_xcall {k kz : Nat} {i : Nat} {x en : Str} {pn2 pp pos : Pos} {a : Addr} {oe : Obj} {C dd : Addr} {pn : List (Addr × Obj)} {B0 H0 : Hp} {m : MX} (Z : Cz X p kz) (G : KnX X.prog X.w X.K X.mg X.base p.C p.xt x k m) (hkz : k ≤ kz) (hz : Zc (.ref C) (some dd) oe) (hf : ∃ vs, oe.data = .fields vs) (hg : Gl X x)
    (hn : PE (X.suite a ((a, oe) :: pn)) (.Name en pn2) (tVar i)) (hdb : (x == ("__debug__" : Str)) = false := by decide) (he : starEach [.Name en pn2] X.env = (false, eval (.Name en pn2) X.env) :: starEach [] X.env := by rfl) (hpl : (backTo pos (starEach [] X.env)).any (·.1) = false := by rfl) :
    PE (X.suite a ((a, oe) :: pn)) (.Call (.Name x pp) [.Name en pn2] [] pos) (dE ⟨p.K, p.C, B0, H0, p.xt, W0, some (a, dd, C), p.n⟩ (fXcall m i)) := by
  obtain ⟨f, fd, ps, h1, hm, hkp, hb, F⟩ := G.ex
  refine ⟨fun pins s σ H Q I h => ?_⟩
  obtain ⟨B, ρ, c, S, md⟩ := h
  refine wpAny_Call_Name_kw (ld_glob (X := X.suite a ((a, oe) :: pn)) I hg hm ?_ hdb)
  unfold fXcall at md
  split at md
  · rename_i y e
    obtain ⟨o, e1, a', dd', C', ns, ws, k1, k2, k3, k4, k5, k6, k7⟩ := S.slot i _ e
    cases k1
    subst k2
    refine PySem.W.callWith_K (h₀ := X.base) I.ok.mod.kin hkp (thn ((pa_cons hn pa_nil he).run pos pins s σ H (fun vs H1 => vs = [.ref a] ∧ H1 = H) I ⟨_, e1, rfl, rfl⟩) fun us s1 hz1 => ?_) he hpl
    obtain ⟨vs, H1, I1, r, rfl, rfl⟩ := hz1
    refine ⟨I1.kIn, ?_⟩
    have hlu : us.length = ps.length := by rw [← r.length, h1]; rfl
    have bb := hb s1 us I1.kIn (by rw [List.append_nil]; exact hlu)
    rw [List.append_nil] at bb
    have P1 := I1.pin (a, oe) (List.mem_append_left _ (List.mem_cons_self ..))
    have hpin : L2H.PinOk (X.suite a ((a, oe) :: pn)).stack H1 s1 (a, oe) := ⟨P1.1, P1.2.1, fun hm => (List.mem_cons.mp (I1.stkSub a hm)).elim P1.2.2.1 P1.2.2.2.1, P1.2.2.2.2⟩
    have hr : L2H.RoomH k (X.suite a ((a, oe) :: pn)).A := (L2H.roomH_of (Z.room.mono hkz) : L2H.RoomH k X.A) |> fun r => ⟨r.dp, r.un⟩
    refine wpAny_call (codeAny_mono (F.run _ _ s1 H1 ⟨us, []⟩ us [.ref a] Q (fun _ _ _ => False) (a, oe) hr hpin I1.env0 bb r hlu ?_) fun r s' hq => ?_)
    · rw [← Z.hk]
      refine ⟨B, c, y, C, dd, ns, ws, rfl, S.sub, fun b e => (S.cel b e).1, fun b e => (S.cel b e).2.1, hz, hf, k3, k4, k6, k7, ?_⟩
      generalize m y c = rr at md
      match rr, md with
      | .ok d c', md => exact fun v B' H' g hc r => md v B' H' (S.call g hc) g.b r
      | .ex _ _, md => exact md.elim
      | .no, md => exact md.elim
    · match r, hq with
      | .error e, ⟨_, _, _, _, _, _, _, _, _, _, _, _, z⟩ => exact z.elim
      | .ok (.ret u), hq => exact I1.after hq
      | .ok .next, hq => exact hq.elim
      | .ok .brk, hq => exact hq.elim
      | .ok .cont, hq => exact hq.elim
  · exact md.elim
end
theorem kit_dn {K : PySem.W.Frag} {D C : Addr} {cd : ClassData} (h0 : (Value.ref D == Value.ref C) = false) (h1 : PySem.W.clsIn K C = some cd) (h2 : PySem.W.typeIn K (.ref C) = some (.type "type")) (h3 : PySem.W.subIn K (.ref D) (.ref C) = some false) : PySem.W.kitOne K (.ref D) (.ref C) = some false := by
  unfold PySem.W.kitOne
  rw [h0]
  show (if ((PySem.W.clsIn K C).isSome && PySem.W.typeIn K (.ref C) == some (.type "type")) = true then PySem.W.subIn K (.ref D) (.ref C) else none) = some false
  rw [h1, h2]
  exact h3
theorem kit_upT {K : PySem.W.Frag} {D : Addr} {T : String} (h2 : PySem.W.kitMeta T = true) (h3 : PySem.W.subIn K (.ref D) (.type T) = some true) : PySem.W.kitOne K (.ref D) (.type T) = some true := by
  show (if PySem.W.kitMeta T = true then PySem.W.subIn K (.ref D) (.type T) else none) = some true
  rw [if_pos h2]
  exact h3
theorem km_VE : PySem.W.kitMeta "ValueError" = true := by decide +kernel
end DL
end L2

set_option Elab.async false
set_option linter.all false
set_option maxRecDepth 100000
/-! The combinators' equations, for simp. -/
namespace L2
open PySem PySem.Spec PyProof.Rows
namespace DL
section
variable {α β : Type} {a : α} {c : Int} {x : Xn} {k : α → Int → R β}
@[simp] theorem bind_ok : (R.ok a c).bind k = k a c := rfl
@[simp] theorem bind_ex : (R.ex x c : R α).bind k = .ex x c := rfl
@[simp] theorem bind_no : (R.no : R α).bind k = .no := rfl
@[simp] theorem ofO_some : ofO (some a) c = .ok a c := rfl
@[simp] theorem ofO_none : ofO (none : Option α) c = .no := rfl
theorem bind_ite {p : Prop} [Decidable p] {r s : R α} : (if p then r else s).bind k = if p then r.bind k else s.bind k := by split <;> rfl
end
section
variable {ρ : En} {c : Int} {i j : Nat} {d : PyData} {f g h : FE} {t u : FT} {fa : FA} {s s2 : FS} {fl : FL}
@[simp] theorem fNm_ : fNm i ρ c = match ρ[i]? with | some (.dt d) => .ok d c | _ => .no := rfl
@[simp] theorem fC_ : fC d ρ c = .ok d c := rfl
@[simp] theorem f1_ {uf : PyData → Option PyData} : f1 uf f ρ c = (f ρ c).bind fun x c1 => ofO (uf x) c1 := rfl
@[simp] theorem f2_ {bf : PyData → PyData → Option PyData} : f2 bf f g ρ c = (f ρ c).bind fun x c1 => (g ρ c1).bind fun y c2 => ofO (bf x y) c2 := rfl
@[simp] theorem tB1_ : tB1 f ρ c = (f ρ c).bind fun d c1 => ofO (asB d) c1 := rfl
@[simp] theorem asB_ {b : Bool} : asB (.bool b) = some b := rfl
@[simp] theorem tTr_ : tTr f ρ c = (f ρ c).bind fun d c1 => ofO (truth d) c1 := rfl
@[simp] theorem tAn_ : tAn t u ρ c = (t ρ c).bind fun k c1 => if k = true then u ρ c1 else .ok false c1 := rfl
@[simp] theorem tOr_ : tOr' t u ρ c = (t ρ c).bind fun k c1 => if k = true then .ok true c1 else u ρ c1 := rfl
@[simp] theorem tNo_ : tNo t ρ c = (t ρ c).bind fun k c1 => .ok (!k) c1 := rfl
@[simp] theorem fAn_ : fAn f g ρ c = (f ρ c).bind fun d c1 => (ofO (truth d) c1).bind fun k c2 => if k = true then g ρ c2 else .ok d c2 := rfl
@[simp] theorem fOr_ : fOr f g ρ c = (f ρ c).bind fun d c1 => (ofO (truth d) c1).bind fun k c2 => if k = true then .ok d c2 else g ρ c2 := rfl
@[simp] theorem fNo_ : fNo f ρ c = (f ρ c).bind fun d c1 => (ofO (truth d) c1).bind fun k c2 => .ok (.bool (!k)) c2 := rfl
@[simp] theorem fIf_ : fIf t f g ρ c = (t ρ c).bind fun k c1 => if k = true then f ρ c1 else g ρ c1 := rfl
@[simp] theorem aNil_ : aNil ρ c = .ok [] c := rfl
@[simp] theorem aCons_ : aCons f fa ρ c = (f ρ c).bind fun d c1 => (fa ρ c1).bind fun ss c2 => .ok (.dt d :: ss) c2 := rfl
@[simp] theorem aCel_ : aCel i fa ρ c = (match ρ[i]? with | some .ce => .ok [.ce] c | _ => .no : R (List Sl)).bind fun _ c1 => (fa ρ c1).bind fun ss c2 => .ok (.ce :: ss) c2 := rfl
@[simp] theorem fDis_ {mk : List Sl → Option PyData} : fDis mk fa ρ c = (fa ρ c).bind fun ss c1 => ofO (mk ss) c1 := rfl
@[simp] theorem dts_0 : dts [] = some [] := rfl
@[simp] theorem dts_1 {ss : List Sl} : dts (.dt d :: ss) = (dts ss).map (d :: ·) := rfl
@[simp] theorem fBi_ {cf : List PyData → Option PyData} : fBi cf fa ρ c = (fa ρ c).bind fun ss c1 => ofO ((dts ss).bind cf) c1 := rfl
@[simp] theorem fCall_ {m : MF} : fCall m fa ρ c = (fa ρ c).bind fun ss c1 => m ss c1 := rfl
@[simp] theorem fPn_ : fPn ρ c = .ok none c := rfl
@[simp] theorem fPs_ : fPs f ρ c = (f ρ c).bind fun d c1 => ofO (asI d) c1 := rfl
@[simp] theorem asI_ {n : Int} : asI (.int n) = some (some n) := rfl
@[simp] theorem fSl_ {fl fh : FO} : fSl f fl fh ρ c = (f ρ c).bind fun d c1 => (fl ρ c1).bind fun l c2 => (fh ρ c2).bind fun u c3 => ofO (dSl d l u) c3 := rfl
@[simp] theorem sSeq_ : sSeq s s2 ρ c = (s ρ c).bind fun fl c1 => match fl with | .nx ρ1 => s2 ρ1 c1 | fl => .ok fl c1 := rfl
@[simp] theorem sNx_ : sNx ρ c = .ok (.nx ρ) c := rfl
@[simp] theorem sRet_ : sRet f ρ c = (f ρ c).bind fun d c1 => .ok (.rt d) c1 := rfl
@[simp] theorem sIf_ : sIf t s s2 ρ c = (t ρ c).bind fun k c1 => if k = true then s ρ c1 else s2 ρ c1 := rfl
@[simp] theorem sSet_ : sSet i f ρ c = (f ρ c).bind fun d c1 => .ok (.nx (ρ.set i (.dt d))) c1 := rfl
@[simp] theorem sPar_ : sPar i j f g ρ c = (f ρ c).bind fun d c1 => (g ρ c1).bind fun e c2 => .ok (.nx ((ρ.set i (.dt d)).set j (.dt e))) c2 := rfl
@[simp] theorem sDrop_ : sDrop f ρ c = (f ρ c).bind fun _ c1 => .ok (.nx ρ) c1 := rfl
@[simp] theorem sAsg_ {tg : FG} : sAsg f tg ρ c = (f ρ c).bind fun d c1 => (ofO (tg d ρ) c1).bind fun ρ1 c2 => .ok (.nx ρ1) c2 := rfl
@[simp] theorem sRaise_ {n : Nat} : sRaise n f ρ c = (f ρ c).bind fun d c1 => .ex ⟨n, [d]⟩ c1 := rfl
@[simp] theorem sAug_ {bf : PyData → PyData → Option PyData} : sAug i bf f ρ c = match ρ[i]? with | some (.dt d0) => (f ρ c).bind fun d c1 => (ofO (bf d0 d) c1).bind fun e c2 => .ok (.nx (ρ.set i (.dt e))) c2 | _ => .no := rfl
@[simp] theorem tNm_ : tNm i d ρ = some (ρ.set i (.dt d)) := rfl
@[simp] theorem fCell_ : fCell i ρ c = match ρ[i]? with | some .ce => .ok (.int c) c | _ => .no := rfl
@[simp] theorem mOf_ {n : Nat} {ss : List Sl} : mOf n s ss c = match s (ss ++ List.replicate (n - ss.length) .un) c with
  | .ok (.nx _) c' => .ok .none c'
  | .ok (.rt d) c' => .ok d c'
  | .ok (.bk _) _ => .no
  | .ok (.ct _) _ => .no
  | .ex x c' => .ex x c'
  | .no => .no := rfl
/-! operators on concrete kinds -/
variable {a b : Int} {xs ys : List PyData} {x y : Str}
@[simp] theorem dAdd_i : dAdd (.int a) (.int b) = some (.int (a + b)) := rfl
@[simp] theorem dSub_i : dSub (.int a) (.int b) = some (.int (a - b)) := rfl
@[simp] theorem iAdd_i : iAdd (.int a) (.int b) = some (.int (a + b)) := rfl
@[simp] theorem dNeg_i : dNeg (.int a) = some (.int (-a)) := rfl
@[simp] theorem dLt_i : dOrd (fun a b => decide (a < b)) (.int a) (.int b) = some (.bool (decide (a < b))) := rfl
@[simp] theorem dOrd_i {q : Int → Int → Bool} : dOrd q (.int a) (.int b) = some (.bool (q a b)) := rfl
@[simp] theorem dIsi_ {T : String} : dIsi T d = some (.bool (isT T d)) := rfl
@[simp] theorem truth_b {k : Bool} : truth (.bool k) = some k := rfl
@[simp] theorem truth_i : truth (.int a) = some (a != 0) := rfl
@[simp] theorem cAbs_i : cAbs [.int a] = some (.int (if a < 0 then -a else a)) := rfl
@[simp] theorem cInt_i : cInt [.int a] = some (.int a) := rfl
@[simp] theorem cLen_l : cLen [.list xs] = some (.int xs.length) := rfl
@[simp] theorem cLen_t : cLen [.tuple xs] = some (.int xs.length) := rfl
@[simp] theorem mkTup_ {ss : List Sl} : mkTup ss = match dts ss with | some ds => if lineOk ds.length then some (.tuple ds) else none | none => none := rfl
@[simp] theorem mkLst_ {ss : List Sl} : mkLst ss = match dts ss with | some ds => if lineOk ds.length then some (.list ds) else none | none => none := rfl
theorem mul_i (h : mulFits a b = true) : dMul (.int a) (.int b) = some (.int (a * b)) := if_pos h
theorem div_i (h : divFits b = true) : dDiv (.int a) (.int b) = some (.int (a.fdiv b)) := if_pos h
theorem mod_i (h : b ≠ 0) : dMod (.int a) (.int b) = some (.int (a.fmod b)) := if_pos h
theorem atI_n {α : Type} {xs : List α} {n : Nat} : atI xs (n : Int) = xs[n]? := by
  cases h : xs[n]? with
  | some v => exact atI_nat h
  | none =>
    have h' := List.getElem?_eq_none_iff.mp h
    unfold atI ixN
    rw [if_pos (by omega), if_neg (by omega)]
    rfl
@[simp] theorem ix_t0 : dIx (.tuple xs) (.int 0) = xs[0]? := atI_n (n := 0)
@[simp] theorem ix_t1 : dIx (.tuple xs) (.int 1) = xs[1]? := atI_n (n := 1)
@[simp] theorem ix_t2 : dIx (.tuple xs) (.int 2) = xs[2]? := atI_n (n := 2)
theorem ix_tn {n : Nat} : dIx (.tuple xs) (.int n) = xs[n]? := atI_n
theorem ix_ln {n : Nat} : dIx (.list xs) (.int n) = xs[n]? := atI_n
theorem ix_t {k : Int} (h : 0 ≤ k) : dIx (.tuple xs) (.int k) = xs[k.toNat]? := by
  obtain ⟨n, rfl⟩ := Int.eq_ofNat_of_zero_le h
  exact atI_n
theorem ix_l {k : Int} (h : 0 ≤ k) : dIx (.list xs) (.int k) = xs[k.toNat]? := by
  obtain ⟨n, rfl⟩ := Int.eq_ofNat_of_zero_le h
  exact atI_n
@[simp] theorem sTry_ {n : Nat} {hs : List HdS} : sTry n s hs ρ c = match s ρ c with | .ex x c1 => hdD n hs x c1 | r => r := rfl
@[simp] theorem hdD_0 {n : Nat} {x : Xn} : hdD n [] x c = .ex x c := rfl
@[simp] theorem hdD_1 {n : Nat} {x : Xn} {h : HdS} {r : List HdS} : hdD n (h :: r) x c = if x.n ∈ h.ns then noEx (h.f (enX n h.i x) c) else hdD n r x c := rfl
@[simp] theorem noEx_ok : noEx (.ok d c) = .ok (.rt d) c := rfl
@[simp] theorem noEx_ex {x : Xn} : noEx (.ex x c) = .no := rfl
@[simp] theorem noEx_no : noEx .no = .no := rfl
@[simp] theorem enX_s {n : Nat} {x : Xn} : enX n (some i) x = (List.replicate n .un).set i (.xn x) := rfl
@[simp] theorem enX_n {n : Nat} {x : Xn} : enX n none x = List.replicate n .un := rfl
@[simp] theorem fXis_ {ns : List Nat} : fXis ns i ρ c = match ρ[i]? with | some (.xn x) => .ok (.bool (decide (x.n ∈ ns))) c | _ => .no := rfl
@[simp] theorem fXat_ {nms : List (List Str)} {nm : Str} : fXat nms i nm ρ c = match ρ[i]? with | some (.xn x) => (match nms[x.n]? with | some ns => ofO ((ns.zip x.fs).lookup nm) c | none => .no) | _ => .no := rfl
theorem sSel_ {ms : List MF} {n : Nat} {m : MF} (hl : ms.length ≤ 1000) (hi : i < ρ.length) (hf : f (ρ.set i .un) c = .ok (.int n) c) (hm : ms[n]? = some m) : sSel i ms f fa ρ c = (fa (ρ.set i .un) c).bind fun ss c2 => (m ss c2).bind fun e c3 => .ok (.rt e) c3 := by
  unfold sSel
  rw [if_pos (by simp [lineOk, hi]; omega), hf]
  simp only [bind_ok, atF]
  rw [atI_n, hm]
end
/-! ### what repr can show -/
mutual
def Nc : PyData → Prop
  | .none | .bool _ => True
  | .int i => i.natAbs < 2 ^ 200
  | .str x => PyData.canLay0 (.str x) = true ∧ x.length ≤ 200
  | .list xs | .tuple xs => NcAll xs
  | .dict _ => False
def NcAll : List PyData → Prop
  | [] => True
  | x :: xs => Nc x ∧ NcAll xs
end
mutual
def cnt : PyData → Nat
  | .list xs | .tuple xs => cntAll xs + 1
  | .none | .bool _ | .int _ | .str _ | .dict _ => 1
def cntAll : List PyData → Nat
  | [] => 0
  | x :: xs => cnt x + cntAll xs
end
theorem small_log {i : Int} (h : i.natAbs < 2 ^ 200) : i.natAbs.log2 < 200 := by
  by_cases h0 : i.natAbs = 0
  · rw [h0]; decide
  · exact (Nat.log2_lt h0).mpr h
theorem small_shown {i : Int} (h : i.natAbs < 2 ^ 200) : (PyData.shown (.int i)).length ≤ 62 := by
  have e := int_text_length_le10 (k := 61) (by decide) (Nat.lt_of_lt_of_le h (by decide))
  show (Str.ofString (toString i)).length ≤ 62
  rw [PySem.ofString_length]
  exact e
mutual
theorem Nc.facts : ∀ d : PyData, Nc d → d.canLay0 = true ∧ d.showable = true ∧ d.hasDict = false ∧ d.intsShort 62 = true ∧ d.weight + 1 ≤ 202 * cnt d
  | .none, _ => ⟨rfl, rfl, rfl, rfl, by simp [PyData.weight, cnt]⟩
  | .bool _, _ => ⟨rfl, rfl, rfl, rfl, by simp [PyData.weight, cnt]⟩
  | .int i, h => by
    have hi : i.natAbs < 2 ^ 200 := h
    have hl := small_log hi
    refine ⟨rfl, decide_eq_true (by omega), rfl, decide_eq_true (small_shown hi), ?_⟩
    simp only [PyData.weight, cnt]
    split <;> omega
  | .str x, h => by
    have h' : PyData.canLay0 (.str x) = true ∧ x.length ≤ 200 := h
    refine ⟨h'.1, rfl, rfl, rfl, ?_⟩
    have e : x.length = x.cps.size := rfl
    simp only [PyData.weight, cnt]
    omega
  | .list xs, h => by
    obtain ⟨h1, h2, h3, h4, h5⟩ := NcAll.facts xs h
    refine ⟨h1, h2, h3, h4, ?_⟩
    simp only [PyData.weight, cnt]
    omega
  | .tuple xs, h => by
    obtain ⟨h1, h2, h3, h4, h5⟩ := NcAll.facts xs h
    refine ⟨h1, h2, h3, h4, ?_⟩
    simp only [PyData.weight, cnt]
    omega
  | .dict _, h => h.elim
theorem NcAll.facts : ∀ xs : List PyData, NcAll xs → PyData.canLayAll0 xs = true ∧ PyData.showableAll xs = true ∧ PyData.hasDictAll xs = false ∧ PyData.intsShortAll 62 xs = true ∧ PyData.weightAll xs ≤ 202 * cntAll xs
  | [], _ => ⟨rfl, rfl, rfl, rfl, by simp [PyData.weightAll, cntAll]⟩
  | x :: xs, h => by
    have h' : Nc x ∧ NcAll xs := h
    obtain ⟨h1, h2, h3, h4, h5⟩ := Nc.facts x h'.1
    obtain ⟨k1, k2, k3, k4, k5⟩ := NcAll.facts xs h'.2
    refine ⟨by simp only [PyData.canLayAll0, h1, k1, Bool.and_self], by simp only [PyData.showableAll, h2, k2, Bool.and_self], by simp only [PyData.hasDictAll, h3, k3, Bool.or_self], by simp only [PyData.intsShortAll, h4, k4, Bool.and_self], ?_⟩
    simp only [PyData.weightAll, cntAll]
    omega
end
theorem showOk_of {d : PyData} (h : Nc d) (hc : cnt d ≤ 1000) (hd : d.depth ≤ 64) : showOk d = true := by
  obtain ⟨h1, h2, h3, h4, h5⟩ := Nc.facts d h
  have e := PyData.shown_le 62 (by decide) d (PyData.leavesShort_of_canLay0 62 d h1 h4)
  unfold showOk lineOk
  simp only [h2, h3, Bool.not_false, Bool.and_self, Bool.true_and, Bool.and_eq_true, decide_eq_true_eq]
  exact ⟨hd, by omega⟩
theorem shaped_of {d : PyData} (h : Nc d) (hd : d.depth ≤ 64) : SeqAt.shaped d = true := by
  obtain ⟨h1, _⟩ := Nc.facts d h
  unfold SeqAt.shaped
  rw [h1, decide_eq_true hd]
  rfl
theorem eq_self {d : PyData} (h : Nc d) (hd : d.depth ≤ 64) : dEq d d = some (.bool true) := by
  unfold dEq
  split
  · simp
  · rw [shaped_of h hd, SeqAt.eqv_refl d (Nc.facts d h).1]
    rfl
theorem repr_self {d : PyData} (h : Nc d) (hc : cnt d ≤ 1000) (hd : d.depth ≤ 64) : cRepr [d] = some (.str d.shown) := if_pos (showOk_of h hc hd)
@[simp] theorem eq_ss {x y : Str} : dEq (.str x) (.str y) = some (.bool (x == y)) := rfl
@[simp] theorem ne_ss {x y : Str} : dNe (.str x) (.str y) = some (.bool (!(x == y))) := rfl
theorem eq_ii (a b : Int) : dEq (.int a) (.int b) = some (.bool (decide (a = b))) := by
  show (if (SeqAt.shaped (.int a) && SeqAt.shaped (.int b)) = true then some (PyData.bool (PyData.eqv (.int a) (.int b))) else none) = _
  rw [if_pos (by rfl)]
  simp only [PyData.eqv]
  rfl
theorem ne_ii (a b : Int) : dNe (.int a) (.int b) = some (.bool (!decide (a = b))) := by
  show (if (SeqAt.shaped (.int a) && SeqAt.shaped (.int b)) = true then some (PyData.bool (!PyData.eqv (.int a) (.int b))) else none) = _
  rw [if_pos (by rfl)]
  simp only [PyData.eqv]
  rfl
theorem eq_tt {xs ys : List PyData} (h1 : SeqAt.shaped (.tuple xs) = true) (h2 : SeqAt.shaped (.tuple ys) = true) : dEq (.tuple xs) (.tuple ys) = some (.bool (PyData.eqvAll xs ys)) := by
  show (if (SeqAt.shaped (.tuple xs) && SeqAt.shaped (.tuple ys)) = true then some (PyData.bool (PyData.eqv (.tuple xs) (.tuple ys))) else none) = _
  rw [h1, h2]
  simp [PyData.eqv]
theorem eq_ll {xs ys : List PyData} (h1 : SeqAt.shaped (.list xs) = true) (h2 : SeqAt.shaped (.list ys) = true) : dEq (.list xs) (.list ys) = some (.bool (PyData.eqvAll xs ys)) := by
  show (if (SeqAt.shaped (.list xs) && SeqAt.shaped (.list ys)) = true then some (PyData.bool (PyData.eqv (.list xs) (.list ys))) else none) = _
  rw [h1, h2]
  simp [PyData.eqv]
theorem ne_ll {xs ys : List PyData} (h1 : SeqAt.shaped (.list xs) = true) (h2 : SeqAt.shaped (.list ys) = true) : dNe (.list xs) (.list ys) = some (.bool (!PyData.eqvAll xs ys)) := by
  show (if (SeqAt.shaped (.list xs) && SeqAt.shaped (.list ys)) = true then some (PyData.bool (!PyData.eqv (.list xs) (.list ys))) else none) = _
  rw [h1, h2]
  simp [PyData.eqv]
theorem ne_self {d : PyData} (h : Nc d) (hd : d.depth ≤ 64) : dNe d d = some (.bool false) := by
  unfold dNe
  split
  · simp
  · rw [shaped_of h hd, SeqAt.eqv_refl d (Nc.facts d h).1]
    rfl
section
variable {ρ : En} {c : Int} {i j : Nat} {d : PyData} {f g h : FE} {t u : FT} {fa : FA} {s s2 : FS} {fl : FL} {tg : FG}
@[simp] theorem sOw_ : sOw i fl ρ c = (fl ρ c).bind fun ds c1 => .ok (.nx (ρ.set i (.ow ds))) c1 := rfl
@[simp] theorem sApp_ : sApp i f ρ c = match ρ[i]? with | some (.ow ds) => (f ρ c).bind fun d c1 => if lineOk (ds.length + 1) then .ok (.nx (ρ.set i (.ow (ds ++ [d])))) c1 else .no | _ => .no := rfl
@[simp] theorem sFor_ : sFor fl tg s ρ c = (fl ρ c).bind fun ds c1 => forD tg s ds ρ c1 := rfl
@[simp] theorem lRng_ {r : List Sl → Option (List PyData)} : lRng r fa ρ c = (fa ρ c).bind fun ss c1 => ofO (r ss) c1 := rfl
@[simp] theorem lIt_ : lIt f ρ c = (f ρ c).bind fun d c1 => ofO (asSeq d) c1 := rfl
@[simp] theorem asSeq_l {ds : List PyData} : asSeq (.list ds) = some ds := rfl
@[simp] theorem asSeq_t {ds : List PyData} : asSeq (.tuple ds) = some ds := rfl
@[simp] theorem fFz_ : fFz fl ρ c = (fl ρ c).bind fun ds c1 => .ok (.list ds) c1 := rfl
@[simp] theorem lLst_ : lLst fa ρ c = (fa ρ c).bind fun ss c1 => match dts ss with | some ds => if lineOk ds.length then .ok ds c1 else .no | none => .no := rfl
@[simp] theorem lSc_ {m : Nat} : lSc i m ρ c = match ρ[i]? with | some (.sc ns) => .ok ((ns.take m).map PyData.int) c | _ => .no := rfl
@[simp] theorem sFz_ : sFz i s ρ c = s (fzE i ρ) c := rfl
@[simp] theorem fzE_ : fzE i ρ = match ρ[i]? with | some (.ow ds) => ρ.set i (.dt (.list ds)) | _ => ρ := rfl
@[simp] theorem sCel_ : sCel i s ρ c = match s ((blkE ρ []).set i .ce) 0 with | .ok (.rt d) _ => .ok (.rt d) c | _ => .no := rfl
@[simp] theorem sCell_ : sCell i f ρ c = match ρ[i]? with | some .ce => ((f ρ c).bind fun d _ => match d with | .int n => .ok (.nx ρ) n | _ => .no) | _ => .no := rfl
@[simp] theorem aSc_ : aSc i fa ρ c = match ρ[i]? with | some (.sc ns) => (fa ρ c).bind fun ss c2 => .ok (.sc ns :: ss) c2 | _ => .no := rfl
@[simp] theorem tTup_ {ts : FGs} {ds : List PyData} : tTup ts (.tuple ds) ρ = ts ds ρ := rfl
@[simp] theorem tsNil_ : tsNil [] ρ = some ρ := rfl
@[simp] theorem tsCons_ {ts : FGs} {ds : List PyData} : tsCons tg ts (d :: ds) ρ = (tg d ρ).bind fun ρ1 => ts ds ρ1 := rfl
@[simp] theorem rng1_ {n : Nat} (h : n < 2 ^ 62 := by decide) : rng1 [.dt (.int n)] = some (rngD 0 n) := by
  have e : rngOk (n : Int) = true := decide_eq_true (by omega)
  show (if rngOk (n : Int) = true then some (rngD 0 (n : Int).toNat) else none) = _
  rw [if_pos e]
  rfl
theorem pow_i {a : Int} {b : Nat} (h : a.natAbs < 2 ^ 64) (hb : b ≤ 1000000) : dPow (.int a) (.int b) = some (.int (a ^ b)) := by
  show (if 0 ≤ (b : Int) ∧ (b : Int) ≤ 1000000 ∧ a.natAbs < 2 ^ 64 then some (PyData.int (a ^ (b : Int).toNat)) else none) = _
  rw [if_pos ⟨by omega, by omega, h⟩]
  rfl
/-- a loop by an invariant -/
theorem forD_inv (P : Nat → En → Int → Prop) : ∀ (ds : List PyData) (i : Nat) (ρ : En) (c : Int),
    (∀ j d, ds[j]? = some d → ∀ ρ c, P (i + j) ρ c → ∃ ρ1, tg d ρ = some ρ1 ∧ ∃ ρ2 c2, (s ρ1 c = .ok (.nx ρ2) c2 ∨ s ρ1 c = .ok (.ct ρ2) c2) ∧ P (i + j + 1) ρ2 c2) → P i ρ c →
    ∃ ρ' c', forD tg s ds ρ c = .ok (.nx ρ') c' ∧ P (i + ds.length) ρ' c'
  | [], i, ρ, c, _, h => ⟨ρ, c, rfl, h⟩
  | d :: ds, i, ρ, c, hs, h => by
    obtain ⟨ρ1, e1, ρ2, c2, e2, h2⟩ := hs 0 d rfl ρ c h
    obtain ⟨ρ', c', e3, h3⟩ := forD_inv P ds (i + 1) ρ2 c2 (fun j d' e ρ c q => by
      have z := hs (j + 1) d' (by simpa using e) ρ c (by rw [show i + (j + 1) = i + 1 + j by omega]; exact q)
      rw [show i + (j + 1) + 1 = i + 1 + j + 1 by omega] at z
      exact z) h2
    refine ⟨ρ', c', ?_, by rw [List.length_cons, show i + (ds.length + 1) = i + 1 + ds.length by omega]; exact h3⟩
    rw [forD, e1]
    rcases e2 with e2 | e2
    · simp only [e2, bind_ok]; exact e3
    · simp only [e2, bind_ok]; exact e3
end
theorem rngD_get {lo : Int} {n j : Nat} {d : PyData} (h : (rngD lo n)[j]? = some d) : j < n ∧ d = .int (lo + j) := by
  unfold rngD at h
  rw [List.getElem?_map] at h
  by_cases hj : j < n
  · rw [List.getElem?_range hj] at h
    cases h
    exact ⟨hj, rfl⟩
  · rw [List.getElem?_eq_none (by simpa using hj)] at h
    cases h
@[simp] theorem truth_l {xs : List PyData} : truth (.list xs) = some (!xs.isEmpty) := rfl
@[simp] theorem truth_t {xs : List PyData} : truth (.tuple xs) = some (!xs.isEmpty) := rfl
@[simp] theorem truth_n : truth .none = some false := rfl
end DL
end L2

set_option Elab.async false
set_option linter.all false
set_option maxRecDepth 100000
namespace L2
open PySem PySem.Spec PyProof.Rows
namespace DL
/-! ### comprehensions -/
@[simp] theorem hide_d {d : PyData} : hide1 (.dt d) = .dt d := rfl
@[simp] theorem hide_c : hide1 .ce = .ce := rfl
@[simp] theorem hide_s {ns : List Int} : hide1 (.sc ns) = .sc ns := rfl
@[simp] theorem hide_u : hide1 .un = .un := rfl
@[simp] theorem blkE_0 {ρ : En} : blkE ρ [] = ρ.map hide1 := rfl
@[simp] theorem blkE_1 {ρ : En} {v : Nat} : blkE ρ [v] = (ρ.map hide1).set v .un := rfl
@[simp] theorem blkE_2 {ρ : En} {v w : Nat} : blkE ρ [v, w] = ((ρ.map hide1).set w .un).set v .un := rfl
@[simp] theorem tYs_ {ρ : En} {c : Int} : tYs ρ c = .ok true c := rfl
theorem lComp_ {fi : FL} {vs : List Nat} {t : FG} {ft : FT} {fe : FE} {ρ : En} {c : Int} : lComp fi vs t ft fe ρ c = (fi ρ c).bind fun ds c1 => match compD t ft fe (blkE ρ vs) ds c1 with
  | .ok es c2 => if lineOk es.length then .ok es c2 else .no
  | _ => .no := rfl
theorem compD_map {i : Nat} {fe : FE} {ρb : En} {f : PyData → PyData} {c : Int} : ∀ ds : List PyData, (∀ d ∈ ds, fe (ρb.set i (.dt d)) c = .ok (f d) c) → compD (tNm i) tYs fe ρb ds c = .ok (ds.map f) c
  | [], _ => rfl
  | d :: ds, h => by
    rw [compD]
    simp only [tNm_, tYs_, bind_ok, if_true]
    rw [h d (List.mem_cons_self ..)]
    simp only [bind_ok]
    rw [compD_map ds fun x hx => h x (List.mem_cons_of_mem _ hx)]
    rfl
theorem lComp_map {i : Nat} {fi : FL} {fe : FE} {ρ : En} {f : PyData → PyData} {c c1 : Int} {ds : List PyData} (hi : fi ρ c = .ok ds c1) (hl : ds.length ≤ 1000) (h : ∀ d ∈ ds, fe ((blkE ρ [i]).set i (.dt d)) c1 = .ok (f d) c1) : lComp fi [i] (tNm i) tYs fe ρ c = .ok (ds.map f) c1 := by
  rw [lComp_, hi]
  simp only [bind_ok]
  rw [compD_map ds h]
  simp only [List.length_map]
  rw [if_pos (show lineOk ds.length = true from decide_eq_true (by omega))]
end DL
end L2

set_option Elab.async false
set_option linter.all false
set_option maxRecDepth 100000
namespace K00
open PySem PySem.Spec PyProof.Rows L2 L2.DL
def nms : List (List Str) := [["reason"], ["reason"], ["reason"], ["reason"], ["at"], ["number", "reason"], ["line"]]
/-- _law_draws -/
noncomputable def g__law_draws : FS :=
  (sSeq (sOw 1 (lLst aNil))
  (sSeq (sFor (lIt (fFz (lSc 0 63))) (tNm 2)
  (sSeq (sSet 3 (fBi cAbs (aCons (fNm 2) aNil)))
  (sIf (tB1 (f2 dGe (fNm 3) (f2 dPow (fC (.int 10)) (fC (.int 18))))) (sFor (lRng rng1 (aCons (fC (.int 60)) aNil)) (tNm 4)
  (sIf (tB1 (f2 dGt (fNm 3) (fC (.int 0)))) (sSeq (sApp 1 (f2 dMod (fBi cInt (aCons (fNm 3) aNil)) (fC (.int 1009))))
  (sSet 3 (f2 dDiv (fNm 3) (fC (.int 1009)))))
  sNx))
  (sSeq (sSet 5 (f2 dMod (fBi cInt (aCons (f2 dAdd (f2 dMul (fNm 3) (fC (.int 48271))) (fC (.int 11))) aNil)) (fC (.int 2147483647))))
  (sFor (lRng rng1 (aCons (fC (.int 12)) aNil)) (tNm 4)
  (sSeq (sSet 5 (f2 dMod (fBi cInt (aCons (f2 dAdd (f2 dAdd (f2 dMul (fNm 5) (fC (.int 16807))) (f2 dMul (fC (.int 69621)) (fNm 4))) (fC (.int 5))) aNil)) (fC (.int 2147483629))))
  (sApp 1 (f2 dDiv (fNm 5) (fC (.int 1009))))))))))
  (sFz 1 (sRet (fNm 1)))))
noncomputable def m__law_draws : MF := mOf 6 g__law_draws
/-- _law_more -/
noncomputable def g__law_more : FS :=
  (sSeq (sSet 2 (f2 dMod (fBi cInt (aCons (f2 dAdd (f2 dAdd (f2 dMul (fNm 1) (fC (.int 48271))) (fBi cLen (aCons (fNm 0) aNil))) (fC (.int 11))) aNil)) (fC (.int 2147483629))))
  (sSeq (sFor (lRng rng1 (aCons (fC (.int 3)) aNil)) (tNm 3)
  (sSeq (sIf (tTr (fNm 0)) (sSet 2 (f2 dAdd (fNm 2) (f2 dIx (fNm 0) (f2 dMod (fBi cInt (aCons (f2 dAdd (f2 dMul (fNm 1) (f2 dAdd (fNm 3) (fC (.int 5)))) (fNm 3)) aNil)) (fBi cLen (aCons (fNm 0) aNil))))))
  sNx)
  (sSet 2 (f2 dMod (fBi cInt (aCons (f2 dAdd (f2 dAdd (f2 dMul (fNm 2) (fC (.int 16807))) (f2 dMul (fC (.int 69621)) (fNm 3))) (fC (.int 5))) aNil)) (fC (.int 2147483629))))))
  (sRet (f2 dDiv (fNm 2) (fC (.int 1009))))))
noncomputable def m__law_more : MF := mOf 4 g__law_more
/-- _law_take -/
noncomputable def g__law_take : FS :=
  (sSeq (sSet 3 (fCell 1))
  (sSeq (sCell 1 (f2 dAdd (fNm 3) (fC (.int 1))))
  (sRet (f2 dMod (fBi cInt (aCons (fIf (tB1 (f2 dLt (fNm 3) (fBi cLen (aCons (fNm 0) aNil)))) (f2 dIx (fNm 0) (fNm 3)) (fCall m__law_more (aCons (fNm 0) (aCons (fNm 3) aNil)))) aNil)) (fNm 2)))))
noncomputable def m__law_take : MF := mOf 4 g__law_take
/-- _law_one -/
noncomputable def g__law_one : FS :=
  (sRet (f2 dIx (fNm 0) (fCall m__law_take (aCons (fNm 1) (aCel 2 (aCons (fBi cLen (aCons (fNm 0) aNil)) aNil))))))
noncomputable def m__law_one : MF := mOf 3 g__law_one
/-- _law_limits_right -/
noncomputable def g__law_limits_right : FS :=
  (sSeq (sSet 0 (fDis mkLst (aCons (fC (.int 1000000)) (aCons (fC (.int 16)) (aCons (fC (.int 40)) (aCons (fC (.int 12)) (aCons (fC (.int 60)) (aCons (fC (.int 120)) (aCons (fC (.int 40)) (aCons (fC (.int 8000)) (aCons (fC (.int 4000)) (aCons (fC (.int 200)) aNil))))))))))))
  (sSeq (sSet 1 (fDis mkLst (aCons (fC (.int 1000000)) (aCons (fC (.int 16)) (aCons (fC (.int 40)) (aCons (fC (.int 12)) (aCons (fC (.int 60)) (aCons (fC (.int 120)) (aCons (fC (.int 40)) (aCons (fC (.int 8000)) (aCons (fC (.int 4000)) (aCons (fC (.int 200)) aNil))))))))))))
  (sRet (f2 dEq (fBi cRepr (aCons (fNm 0) aNil)) (fBi cRepr (aCons (fNm 1) aNil))))))
noncomputable def m__law_limits_right : MF := mOf 2 g__law_limits_right
/-- _law_raise -/
noncomputable def g__law_raise : FS :=
  (sSeq (sIf (tB1 (f2 dEq (fNm 0) (fC (.int 0)))) (sRaise 0 (fNm 1))
  sNx)
  (sSeq (sIf (tB1 (f2 dEq (fNm 0) (fC (.int 1)))) (sRaise 2 (fNm 1))
  sNx)
  (sSeq (sIf (tB1 (f2 dEq (fNm 0) (fC (.int 2)))) (sRaise 3 (fNm 1))
  sNx)
  (sSeq (sIf (tB1 (f2 dEq (fNm 0) (fC (.int 3)))) (sRaise 1 (fNm 1))
  sNx)
  (sSeq (sIf (tB1 (f2 dEq (fNm 0) (fC (.int 4)))) (sRaise 4 (fNm 1))
  sNx)
  (sSeq (sIf (tB1 (f2 dEq (fNm 0) (fC (.int 5)))) (sRaise2 5 (fNm 1) (fNm 2))
  sNx)
  (sRaise 6 (fNm 1))))))))
noncomputable def m__law_raise : MF := mOf 3 g__law_raise
/-- _law_kinds -/
noncomputable def g__law_kinds : FS :=
  (sSeq (sSet 1 (fDis mkLst (aCons (fXis [0] 0) (aCons (fXis [2] 0) (aCons (fXis [3] 0) (aCons (fXis [1] 0) aNil))))))
  (sRet (f2 dAdd (fNm 1) (fDis mkLst (aCons (fXis [4] 0) (aCons (fXis [5] 0) (aCons (fXis [6] 0) aNil)))))))
noncomputable def m__law_kinds : MX := mXf 2 g__law_kinds
/-- _law_caught -/
noncomputable def g__law_caught : FS :=
  (sSeq (sTry 4 (sDrop (fCall m__law_raise (aCons (fNm 0) (aCons (fNm 1) (aCons (fNm 2) aNil))))) [⟨[0, 1, 2, 3, 4, 5, 6], some 3, (fIf (tTr (fXis [0, 1, 2, 3, 4, 5, 6] 3)) (fXcall m__law_kinds 3) (fDis mkLst aNil))⟩])
  (sRet (fDis mkLst aNil)))
noncomputable def m__law_caught : MF := mOf 4 g__law_caught
/-- _law_fields -/
noncomputable def g__law_fields : FS :=
  (sSeq (sTry 4 (sDrop (fCall m__law_raise (aCons (fNm 0) (aCons (fNm 1) (aCons (fNm 2) aNil))))) [⟨[0], some 3, (fDis mkTup (aCons (fXat nms 3 "reason") aNil))⟩, ⟨[2], some 3, (fDis mkTup (aCons (fXat nms 3 "reason") aNil))⟩, ⟨[3], some 3, (fDis mkTup (aCons (fXat nms 3 "reason") aNil))⟩, ⟨[1], some 3, (fDis mkTup (aCons (fXat nms 3 "reason") aNil))⟩, ⟨[4], some 3, (fDis mkTup (aCons (fXat nms 3 "at") aNil))⟩, ⟨[5], some 3, (fDis mkTup (aCons (fXat nms 3 "number") (aCons (fXat nms 3 "reason") aNil)))⟩, ⟨[6], some 3, (fDis mkTup (aCons (fXat nms 3 "line") aNil))⟩])
  (sRet (fC .none)))
noncomputable def m__law_fields : MF := mOf 4 g__law_fields
/-- law -/
noncomputable def g_law : FS :=
  (sSeq (sSet 1 (fCall m__law_draws (aSc 0 aNil)))
  (sCel 2 (sSeq (sIf (tNo (tTr (fCall m__law_limits_right aNil))) (sRet (fC (.bool false)))
  sNx)
  (sSeq (sSet 3 (fDis mkLst (aCons (fC (.str "word")) (aCons (fC (.str "")) (aCons (fC (.str "form")) (aCons (fC (.int 0)) (aCons (fC (.int 17)) (aCons (f1 dNeg (fC (.int 3))) (aCons (fC .none) (aCons (fDis mkTup (aCons (fC (.str "a")) (aCons (fC (.int 5)) aNil))) (aCons (fC (.str "a line")) (aCons (fC (.bool true)) aNil))))))))))))
  (sSeq (sFor (lRng rng1 (aCons (fC (.int 7)) aNil)) (tNm 4)
  (sSeq (sPar 5 6 (fCall m__law_one (aCons (fNm 3) (aCons (fNm 1) (aCel 2 aNil)))) (fCall m__law_one (aCons (fNm 3) (aCons (fNm 1) (aCel 2 aNil)))))
  (sSeq (sIf (tB1 (f2 dNe (fCall m__law_caught (aCons (fNm 4) (aCons (fNm 5) (aCons (fNm 6) aNil)))) (fFz (lComp (lRng rng1 (aCons (fC (.int 7)) aNil)) [7] (tNm 7) tYs (f2 dEq (fNm 7) (fNm 4)))))) (sRet (fC (.bool false)))
  sNx)
  (sIf (tB1 (f2 dNe (fBi cRepr (aCons (fCall m__law_fields (aCons (fNm 4) (aCons (fNm 5) (aCons (fNm 6) aNil)))) aNil)) (fBi cRepr (aCons (fIf (tB1 (f2 dEq (fNm 4) (fC (.int 5)))) (fDis mkTup (aCons (fNm 5) (aCons (fNm 6) aNil))) (fDis mkTup (aCons (fNm 5) aNil))) aNil)))) (sRet (fC (.bool false)))
  sNx))))
  (sRet (fC (.bool true))))))))
noncomputable def m_law : MF := mOf 8 g_law
end K00

set_option Elab.async false
set_option linter.all false
set_option maxRecDepth 100000
namespace K00
open PySem PySem.Spec PyProof.Rows L2 L2.DL
/-! ### sizes -/
def Bd (k : Nat) (n : Int) : Prop := n.natAbs < 2 ^ k
theorem log2_of {n k : Nat} (h : n < 2 ^ k) (hk : 0 < k) : n.log2 < k := by
  by_cases hn : n = 0
  · subst hn; simpa using hk
  · exact (Nat.log2_lt hn).mpr h
theorem mulFits_of {a b : Int} {j k : Nat} (ha : Bd j a) (hb : Bd k b) (hj : 0 < j) (hk : 0 < k) (h : j + k ≤ 1000000) : mulFits a b = true := by
  have h1 := log2_of ha hj
  have h2 := log2_of hb hk
  unfold mulFits
  exact decide_eq_true (by omega)
theorem divFits_of {b : Int} {k : Nat} (hb : Bd k b) (hk : 0 < k) (h : k ≤ 9000) (h0 : b ≠ 0) : divFits b = true := by
  have h2 := log2_of hb hk
  unfold divFits
  simp [h0]
  omega
theorem Bd.mono {j k : Nat} {a : Int} (h : Bd j a) (hk : j ≤ k) : Bd k a := Nat.lt_of_lt_of_le h (Nat.pow_le_pow_right (by decide) hk)
theorem abs_i (a : Int) : (if a < 0 then -a else a) = (a.natAbs : Int) := by split <;> omega
theorem lineOk_small {n : Nat} (h : n ≤ 1000) : lineOk n = true := decide_eq_true (by omega)
theorem rngD_length (lo : Int) (n : Nat) : (rngD lo n).length = n := by simp [rngD]
/-! ### draws -/
def Drw (ds : List PyData) : Prop := ∀ d ∈ ds, ∃ n : Int, d = .int n ∧ 0 ≤ n ∧ n < 2 ^ 31
theorem Drw.snoc {ds : List PyData} {n : Int} (h : Drw ds) (h0 : 0 ≤ n) (h1 : n < 2 ^ 31) : Drw (ds ++ [.int n]) := fun d hd => by
  rcases List.mem_append.mp hd with z | z
  · exact h d z
  · have : d = .int n := by simpa using z
    exact ⟨n, this, h0, h1⟩
theorem fmod_in {x m : Int} (hm : 0 < m) : 0 ≤ x.fmod m ∧ x.fmod m < m := ⟨Int.fmod_nonneg_of_pos x hm, Int.fmod_lt_of_pos x hm⟩
theorem div_c {m : Int} (h : Bd 60 m) (h0 : m ≠ 0) (x : Int) : dDiv (.int x) (.int m) = some (.int (x.fdiv m)) := div_i (divFits_of h (by decide) (by decide) h0)
theorem mod_c {m : Int} (h0 : m ≠ 0) (x : Int) : dMod (.int x) (.int m) = some (.int (x.fmod m)) := mod_i h0
theorem fdiv_nn {x m : Int} (hx : 0 ≤ x) (hm : 0 ≤ m) : 0 ≤ x.fdiv m := by
  rw [Int.fdiv_eq_ediv_of_nonneg _ hm]
  exact Int.ediv_nonneg hx hm
def StD (is : List Int) (n : Nat) (ρ : En) : Prop := ∃ acc s2 s3 s4 s5, ρ = [.sc is, .ow acc, s2, s3, s4, s5] ∧ Drw acc ∧ acc.length ≤ n
theorem line_ok {n : Nat} (h : n ≤ 16777216) : lineOk n = true := decide_eq_true h
theorem mulFits_any (x : Int) {b : Int} (hx : x.natAbs.log2 < 900000) (hb : Bd 60 b) : mulFits x b = true := by
  have h2 := log2_of hb (by decide)
  unfold mulFits
  exact decide_eq_true (by omega)
def gBig : FS := (sIf (tB1 (f2 dGt (fNm 3) (fC (.int 0)))) (sSeq (sApp 1 (f2 dMod (fBi cInt (aCons (fNm 3) aNil)) (fC (.int 1009))))
  (sSet 3 (f2 dDiv (fNm 3) (fC (.int 1009)))))
  sNx)
theorem big_loop {is : List Int} {n : Nat} {c : Int} {acc : List PyData} {s2 s4 s5 : Sl} {r : Int} (ha : Drw acc) (hl : acc.length ≤ n) (hn : n ≤ 100000) (hr : 0 ≤ r) :
    ∃ ρ' c', forD (tNm 4) gBig (rngD 0 60) [.sc is, .ow acc, s2, .dt (.int r), s4, s5] c = .ok (.nx ρ') c' ∧ StD is (n + 60) ρ' ∧ c' = c := by
  have step : ∀ j d, (rngD 0 60)[j]? = some d → ∀ ρ c1, (fun j ρ c' => ∃ acc s2 r s4 s5, ρ = [.sc is, .ow acc, s2, .dt (.int r), s4, s5] ∧ Drw acc ∧ acc.length ≤ n + j ∧ 0 ≤ r ∧ c' = c) (0 + j) ρ c1 → ∃ ρ1, tNm 4 d ρ = some ρ1 ∧ ∃ ρ2 c2, (gBig ρ1 c1 = .ok (.nx ρ2) c2 ∨ gBig ρ1 c1 = .ok (.ct ρ2) c2) ∧ (fun j ρ c' => ∃ acc s2 r s4 s5, ρ = [.sc is, .ow acc, s2, .dt (.int r), s4, s5] ∧ Drw acc ∧ acc.length ≤ n + j ∧ 0 ≤ r ∧ c' = c) (0 + j + 1) ρ2 c2 := by
    rintro j d hj ρ c1 ⟨acc, s2, r, s4, s5, rfl, k1, k2, k3, rfl⟩
    refine ⟨_, rfl, ?_⟩
    have hj' : j < 60 := by
      have := (List.getElem?_eq_some_iff.mp hj).1
      rw [rngD_length] at this
      exact this
    unfold gBig
    by_cases h0 : 0 < r
    · have hm := fmod_in (x := r) (show (0 : Int) < 1009 by decide)
      refine ⟨[.sc is, .ow (acc ++ [.int (r.fmod 1009)]), s2, .dt (.int (r.fdiv 1009)), .dt d, s5], c1, .inl ?_, _, _, _, _, _, rfl, k1.snoc hm.1 (by omega), by simp; omega, fdiv_nn k3 (by decide), rfl⟩
      simp [h0, mod_c, div_c (show Bd 60 1009 by unfold Bd; decide), line_ok (show acc.length + 1 ≤ 16777216 by omega)]
    · refine ⟨[.sc is, .ow acc, s2, .dt (.int r), .dt d, s5], c1, .inl ?_, _, _, _, _, _, rfl, k1, by omega, k3, rfl⟩
      simp [h0]
  obtain ⟨ρ', c', h1, acc', s2', r', s4', s5', h2, h3, h4, h5, h6⟩ := forD_inv (tg := tNm 4) (s := gBig) (fun j ρ c' => ∃ acc s2 r s4 s5, ρ = [.sc is, .ow acc, s2, .dt (.int r), s4, s5] ∧ Drw acc ∧ acc.length ≤ n + j ∧ 0 ≤ r ∧ c' = c) (rngD 0 60) 0 [.sc is, .ow acc, s2, .dt (.int r), s4, s5] c step ⟨acc, s2, r, s4, s5, rfl, ha, by omega, hr, rfl⟩
  exact ⟨ρ', c', h1, ⟨acc', s2', _, s4', s5', h2, h3, by rw [rngD_length] at h4; omega⟩, h6⟩
def gSm : FS := (sSeq (sSet 5 (f2 dMod (fBi cInt (aCons (f2 dAdd (f2 dAdd (f2 dMul (fNm 5) (fC (.int 16807))) (f2 dMul (fC (.int 69621)) (fNm 4))) (fC (.int 5))) aNil)) (fC (.int 2147483629))))
  (sApp 1 (f2 dDiv (fNm 5) (fC (.int 1009)))))
theorem bd_of {x : Int} {k : Nat} (h0 : 0 ≤ x) (h1 : x < 2 ^ k) : Bd k x := by
  unfold Bd
  have e : ((2 ^ k : Nat) : Int) = (2 : Int) ^ k := by rw [Int.natCast_pow]; rfl
  rw [← e] at h1
  omega
theorem sm_loop {is : List Int} {n : Nat} {c : Int} {acc : List PyData} {s2 s3 s4 : Sl} {r : Int} (ha : Drw acc) (hl : acc.length ≤ n) (hn : n ≤ 100000) (hr : 0 ≤ r) (hr2 : r < 2 ^ 31) :
    ∃ ρ' c', forD (tNm 4) gSm (rngD 0 12) [.sc is, .ow acc, s2, s3, s4, .dt (.int r)] c = .ok (.nx ρ') c' ∧ StD is (n + 12) ρ' ∧ c' = c := by
  have step : ∀ j d, (rngD 0 12)[j]? = some d → ∀ ρ c1, (fun j ρ c' => ∃ acc s2 s3 s4 r, ρ = [.sc is, .ow acc, s2, s3, s4, .dt (.int r)] ∧ Drw acc ∧ acc.length ≤ n + j ∧ 0 ≤ r ∧ r < 2 ^ 31 ∧ c' = c) (0 + j) ρ c1 → ∃ ρ1, tNm 4 d ρ = some ρ1 ∧ ∃ ρ2 c2, (gSm ρ1 c1 = .ok (.nx ρ2) c2 ∨ gSm ρ1 c1 = .ok (.ct ρ2) c2) ∧ (fun j ρ c' => ∃ acc s2 s3 s4 r, ρ = [.sc is, .ow acc, s2, s3, s4, .dt (.int r)] ∧ Drw acc ∧ acc.length ≤ n + j ∧ 0 ≤ r ∧ r < 2 ^ 31 ∧ c' = c) (0 + j + 1) ρ2 c2 := by
    rintro j d hj ρ c1 ⟨acc, s2, s3, s4, r, rfl, k1, k2, k3, k4, rfl⟩
    obtain ⟨hj', hd⟩ := rngD_get hj
    rw [Int.zero_add] at hd
    subst hd
    refine ⟨_, rfl, ?_⟩
    unfold gSm
    have f1 : mulFits r 16807 = true := mulFits_of (bd_of (k := 31) k3 k4) (show Bd 60 16807 by unfold Bd; decide) (by decide) (by decide) (by decide)
    have f2 : mulFits 69621 (j : Int) = true := mulFits_of (show Bd 60 69621 by unfold Bd; decide) (bd_of (k := 31) (by omega) (by omega)) (by decide) (by decide) (by decide)
    have hm := fmod_in (x := r * 16807 + 69621 * (j : Int) + 5) (show (0 : Int) < 2147483629 by decide)
    generalize hz : (r * 16807 + 69621 * (j : Int) + 5).fmod 2147483629 = z at hm
    have hz2 : 0 ≤ z.fdiv 1009 ∧ z.fdiv 1009 < 2 ^ 31 := by
      rw [Int.fdiv_eq_ediv_of_nonneg _ (by decide)]
      omega
    refine ⟨[.sc is, .ow (acc ++ [.int (z.fdiv 1009)]), s2, s3, .dt (.int j), .dt (.int z)], c1, .inl ?_, _, _, _, _, _, rfl, k1.snoc hz2.1 hz2.2, by simp; omega, hm.1, by omega, rfl⟩
    simp [mul_i f1, mul_i f2, mod_c, hz, div_c (show Bd 60 1009 by unfold Bd; decide), line_ok (show acc.length + 1 ≤ 16777216 by omega)]
  obtain ⟨ρ', c', h1, acc', s2', s3', s4', r', h2, h3, h4, h5, h6, h7⟩ := forD_inv (tg := tNm 4) (s := gSm) (fun j ρ c' => ∃ acc s2 s3 s4 r, ρ = [.sc is, .ow acc, s2, s3, s4, .dt (.int r)] ∧ Drw acc ∧ acc.length ≤ n + j ∧ 0 ≤ r ∧ r < 2 ^ 31 ∧ c' = c) (rngD 0 12) 0 [.sc is, .ow acc, s2, s3, s4, .dt (.int r)] c step ⟨acc, s2, s3, s4, r, rfl, ha, by omega, hr, hr2, rfl⟩
  exact ⟨ρ', c', h1, ⟨acc', s2', s3', s4', _, h2, h3, by rw [rngD_length] at h4; omega⟩, h7⟩
theorem e_law_draws {is : List Int} {c : Int} (hl : is.length ≤ 63) : ∃ ds, m__law_draws [.sc is] c = .ok (.list ds) c ∧ Drw ds ∧ ds.length ≤ 3780 := by
  let g : FS := (sSeq (sSet 3 (fBi cAbs (aCons (fNm 2) aNil)))
    (sIf (tB1 (f2 dGe (fNm 3) (f2 dPow (fC (.int 10)) (fC (.int 18))))) (sFor (lRng rng1 (aCons (fC (.int 60)) aNil)) (tNm 4) gBig)
    (sSeq (sSet 5 (f2 dMod (fBi cInt (aCons (f2 dAdd (f2 dMul (fNm 3) (fC (.int 48271))) (fC (.int 11))) aNil)) (fC (.int 2147483647))))
    (sFor (lRng rng1 (aCons (fC (.int 12)) aNil)) (tNm 4) gSm))))
  have step : ∀ j d, (is.map PyData.int)[j]? = some d → ∀ ρ c1, (StD is (60 * (0 + j)) ρ ∧ 0 + j ≤ 63 ∧ c1 = c) → ∃ ρ1, tNm 2 d ρ = some ρ1 ∧ ∃ ρ2 c2, (g ρ1 c1 = .ok (.nx ρ2) c2 ∨ g ρ1 c1 = .ok (.ct ρ2) c2) ∧ (StD is (60 * (0 + j + 1)) ρ2 ∧ 0 + j + 1 ≤ 63 ∧ c2 = c) := by
    rintro j d hj ρ c1 ⟨⟨acc, s2, s3, s4, s5, rfl, k1, k2⟩, k3, rfl⟩
    have hj' : j < is.length := by
      have := (List.getElem?_eq_some_iff.mp hj).1
      simpa using this
    obtain ⟨z, rfl⟩ : ∃ z : Int, d = .int z := by
      rw [List.getElem?_map, List.getElem?_eq_getElem hj'] at hj
      cases hj
      exact ⟨_, rfl⟩
    refine ⟨_, rfl, ?_⟩
    have ep : dPow (.int 10) (.int 18) = some (.int (10 ^ 18)) := pow_i (b := 18) (by decide) (by decide)
    by_cases hz : (1000000000000000000 : Int) ≤ (z.natAbs : Int)
    · obtain ⟨ρ', c', e1, e2, rfl⟩ := big_loop (is := is) (n := 60 * (0 + j)) (c := c1) (s2 := .dt (.int z)) (s4 := s4) (s5 := s5) (r := z.natAbs) k1 k2 (by omega) (by omega)
      refine ⟨ρ', c', .inl ?_, ?_, by omega, rfl⟩
      · show g _ _ = _
        simp only [g]
        simp [abs_i, ep, hz, rng1, rngOk]
        exact e1
      · rw [show 60 * (0 + j + 1) = 60 * (0 + j) + 60 by omega]
        exact e2
    · have f1 : mulFits (z.natAbs : Int) 48271 = true := mulFits_of (bd_of (k := 60) (by omega) (by omega)) (show Bd 60 48271 by unfold Bd; decide) (by decide) (by decide) (by decide)
      have hm := fmod_in (x := (z.natAbs : Int) * 48271 + 11) (show (0 : Int) < 2147483647 by decide)
      obtain ⟨ρ', c', e1, e2, rfl⟩ := sm_loop (is := is) (n := 60 * (0 + j)) (c := c1) (s2 := .dt (.int z)) (s3 := .dt (.int z.natAbs)) (s4 := s4) (r := ((z.natAbs : Int) * 48271 + 11).fmod 2147483647) k1 k2 (by omega) hm.1 (by omega)
      refine ⟨ρ', c', .inl ?_, ?_, by omega, rfl⟩
      · show g _ _ = _
        simp only [g]
        simp [abs_i, ep, hz, mul_i f1, mod_c, rng1, rngOk]
        exact e1
      · obtain ⟨acc, t2, t3, t4, t5, q1, q2, q3⟩ := e2
        exact ⟨acc, t2, t3, t4, t5, q1, q2, by omega⟩
  obtain ⟨ρ', c', h1, ⟨⟨acc, s2, s3, s4, s5, rfl, k1, k2⟩, _, rfl⟩⟩ := forD_inv (tg := tNm 2) (s := g) (fun j ρ c1 => StD is (60 * j) ρ ∧ j ≤ 63 ∧ c1 = c) (is.map PyData.int) 0 [.sc is, .ow [], .un, .un, .un, .un] c step ⟨⟨[], _, _, _, _, rfl, fun d h => by simp at h, by simp⟩, by omega, rfl⟩
  refine ⟨acc, ?_, k1, by simp at k2; omega⟩
  have et : is.take 63 = is := List.take_of_length_le hl
  simp only [g] at h1
  unfold gBig gSm at h1
  unfold m__law_draws g__law_draws
  simp only [mOf_, sSeq_, sOw_, lLst_, aNil_, bind_ok, dts_0, List.length_nil, line_ok (show 0 ≤ 16777216 by decide), if_true, sFor_, lIt_, fFz_, lSc_, ofO_some, asSeq_l, List.length_cons, List.replicate, List.cons_append, List.nil_append, List.getElem?_cons_zero, List.set_cons_succ, List.set_cons_zero, et, h1]
  simp
theorem drw_at {ds : List PyData} (h : Drw ds) {n : Nat} (hn : n < ds.length) : ∃ v : Int, ds[n]? = some (.int v) ∧ 0 ≤ v ∧ v < 2 ^ 31 := by
  obtain ⟨v, e, h0, h1⟩ := h _ (List.getElem_mem hn)
  exact ⟨v, by rw [List.getElem?_eq_getElem hn, e], h0, h1⟩
theorem e_law_more {ds : List PyData} {n c : Int} (hd : Drw ds) (hl : ds.length ≤ 100000) (h0 : 0 ≤ n) (h1 : n < 2 ^ 40) : ∃ v : Int, m__law_more [.dt (.list ds), .dt (.int n)] c = .ok (.int v) c ∧ 0 ≤ v ∧ v < 2 ^ 31 := by
  let g : FS := (sSeq (sIf (tTr (fNm 0)) (sSet 2 (f2 dAdd (fNm 2) (f2 dIx (fNm 0) (f2 dMod (fBi cInt (aCons (f2 dAdd (f2 dMul (fNm 1) (f2 dAdd (fNm 3) (fC (.int 5)))) (fNm 3)) aNil)) (fBi cLen (aCons (fNm 0) aNil))))))
    sNx)
    (sSet 2 (f2 dMod (fBi cInt (aCons (f2 dAdd (f2 dAdd (f2 dMul (fNm 2) (fC (.int 16807))) (f2 dMul (fC (.int 69621)) (fNm 3))) (fC (.int 5))) aNil)) (fC (.int 2147483629)))))
  have hb : Bd 60 n := bd_of h0 (by omega)
  have step : ∀ (j : Nat) (d : PyData), (rngD 0 3)[j]? = some d → ∀ ρ c1, (∃ (m : Int) (s3 : Sl), ρ = [.dt (.list ds), .dt (.int n), .dt (.int m), s3] ∧ 0 ≤ m ∧ m < 2147483629 ∧ c1 = c) → ∃ ρ1, tNm 3 d ρ = some ρ1 ∧ ∃ ρ2 c2, (g ρ1 c1 = .ok (.nx ρ2) c2 ∨ g ρ1 c1 = .ok (.ct ρ2) c2) ∧ (∃ (m : Int) (s3 : Sl), ρ2 = [.dt (.list ds), .dt (.int n), .dt (.int m), s3] ∧ 0 ≤ m ∧ m < 2147483629 ∧ c2 = c) := by
    rintro j d hj ρ c1 ⟨m, s3, rfl, k1, k2, rfl⟩
    obtain ⟨hj', rfl⟩ := rngD_get hj
    rw [Int.zero_add]
    refine ⟨_, rfl, ?_⟩
    have f2 : mulFits 69621 (j : Int) = true := mulFits_of (show Bd 60 69621 by unfold Bd; decide) (bd_of (k := 31) (by omega) (by omega)) (by decide) (by decide) (by decide)
    have f3 : mulFits n ((j : Int) + 5) = true := mulFits_of hb (bd_of (k := 31) (by omega) (by omega)) (by decide) (by decide) (by decide)
    by_cases he : ds.isEmpty = true
    · have f1 : mulFits m 16807 = true := mulFits_of (bd_of (k := 60) k1 (by omega)) (show Bd 60 16807 by unfold Bd; decide) (by decide) (by decide) (by decide)
      have hm := fmod_in (x := m * 16807 + 69621 * (j : Int) + 5) (show (0 : Int) < 2147483629 by decide)
      refine ⟨[.dt (.list ds), .dt (.int n), .dt (.int ((m * 16807 + 69621 * (j : Int) + 5).fmod 2147483629)), .dt (.int j)], c1, .inl ?_, _, _, rfl, hm.1, hm.2, rfl⟩
      show g _ _ = _
      simp only [g]
      simp [he, mul_i f1, mul_i f2, mod_c]
    · have hpos : 0 < ds.length := by
        cases ds with
        | nil => simp at he
        | cons d ds => simp
      have hx := fmod_in (x := n * ((j : Int) + 5) + (j : Int)) (show (0 : Int) < (ds.length : Int) by omega)
      obtain ⟨v, ev, v0, v1⟩ := drw_at hd (n := ((n * ((j : Int) + 5) + (j : Int)).fmod (ds.length : Int)).toNat) (by omega)
      have f1 : mulFits (m + v) 16807 = true := mulFits_of (bd_of (k := 60) (by omega) (by omega)) (show Bd 60 16807 by unfold Bd; decide) (by decide) (by decide) (by decide)
      have hm := fmod_in (x := (m + v) * 16807 + 69621 * (j : Int) + 5) (show (0 : Int) < 2147483629 by decide)
      have hl0 : (ds.length : Int) ≠ 0 := by omega
      refine ⟨[.dt (.list ds), .dt (.int n), .dt (.int (((m + v) * 16807 + 69621 * (j : Int) + 5).fmod 2147483629)), .dt (.int j)], c1, .inl ?_, _, _, rfl, hm.1, hm.2, rfl⟩
      show g _ _ = _
      simp only [g]
      simp [he, mul_i f1, mul_i f2, mul_i f3, mod_c, mod_i hl0, ix_l hx.1, ev]
  have f0 : mulFits n 48271 = true := mulFits_of hb (show Bd 60 48271 by unfold Bd; decide) (by decide) (by decide) (by decide)
  have hm := fmod_in (x := n * 48271 + (ds.length : Int) + 11) (show (0 : Int) < 2147483629 by decide)
  obtain ⟨ρ', c', e1, m, s3, rfl, m0, m1, rfl⟩ := forD_inv (tg := tNm 3) (s := g) (fun j ρ c1 => ∃ (m : Int) (s3 : Sl), ρ = [.dt (.list ds), .dt (.int n), .dt (.int m), s3] ∧ 0 ≤ m ∧ m < 2147483629 ∧ c1 = c) (rngD 0 3) 0 [.dt (.list ds), .dt (.int n), .dt (.int ((n * 48271 + (ds.length : Int) + 11).fmod 2147483629)), .un] c step ⟨_, _, rfl, hm.1, hm.2, rfl⟩
  have hz2 : 0 ≤ m.fdiv 1009 ∧ m.fdiv 1009 < 2 ^ 31 := by
    rw [Int.fdiv_eq_ediv_of_nonneg _ (by decide)]
    omega
  refine ⟨m.fdiv 1009, ?_, hz2⟩
  simp only [g] at e1
  unfold m__law_more g__law_more
  simp [mul_i f0, mod_c, rng1, rngOk, e1, div_c (show Bd 60 1009 by unfold Bd; decide)]
theorem e_law_take {ds : List PyData} {many c : Int} (hd : Drw ds) (hl : ds.length ≤ 100000) (h0 : 0 ≤ c) (h1 : c < 2 ^ 40) (hm : 0 < many) : ∃ v : Int, m__law_take [.dt (.list ds), .ce, .dt (.int many)] c = .ok (.int v) (c + 1) ∧ 0 ≤ v ∧ v < many := by
  have hmn : many ≠ 0 := by omega
  by_cases hc : c < (ds.length : Int)
  · obtain ⟨v, ev, v0, v1⟩ := drw_at hd (n := c.toNat) (by omega)
    refine ⟨v.fmod many, ?_, fmod_in hm⟩
    unfold m__law_take g__law_take
    simp [hc, ix_l h0, ev, mod_i hmn]
  · obtain ⟨v, ev, v0, v1⟩ := e_law_more (c := c + 1) hd hl h0 h1
    refine ⟨v.fmod many, ?_, fmod_in hm⟩
    unfold m__law_take g__law_take
    simp [hc, ev, mod_i hmn]
theorem e_law_one {rows ds : List PyData} {c : Int} (hr : 0 < rows.length) (hd : Drw ds) (hl : ds.length ≤ 100000) (h0 : 0 ≤ c) (h1 : c < 2 ^ 40) : ∃ d ∈ rows, m__law_one [.dt (.list rows), .dt (.list ds), .ce] c = .ok d (c + 1) := by
  obtain ⟨v, ev, v0, v1⟩ := e_law_take (many := (rows.length : Int)) hd hl h0 h1 (by omega)
  have hv : v.toNat < rows.length := by omega
  refine ⟨rows[v.toNat], List.getElem_mem hv, ?_⟩
  unfold m__law_one g__law_one
  simp [ev, ix_l v0, hv]
/-- the draws at hand -/
structure Dr (ds : List PyData) (c : Int) : Prop where
  d : Drw ds
  l : ds.length ≤ 100000
  p : 0 ≤ c
  q : c < 2 ^ 40
theorem Dr.s {ds : List PyData} {c : Int} (h : Dr ds c) (hc : c < 1000000000) : Dr ds (c + 1) := ⟨h.d, h.l, by have := h.p; omega, by omega⟩
theorem one {rows ds : List PyData} {c : Int} (h : Dr ds c) (hr : 0 < rows.length) : ∃ d ∈ rows, m__law_one [.dt (.list rows), .dt (.list ds), .ce] c = .ok d (c + 1) := e_law_one hr h.d h.l h.p h.q
theorem take {ds : List PyData} {many c : Int} (h : Dr ds c) (hm : 0 < many) : ∃ v : Int, m__law_take [.dt (.list ds), .ce, .dt (.int many)] c = .ok (.int v) (c + 1) ∧ 0 ≤ v ∧ v < many := e_law_take h.d h.l h.p h.q hm
end K00

set_option Elab.async false
set_option linter.all false
set_option maxRecDepth 100000
namespace K00
open PySem PySem.Spec PyProof.Rows L2 L2.DL
/-- what is raised at k -/
def exn (k : Nat) (a b : PyData) : Xn := match k with
  | 0 => ⟨0, [a]⟩
  | 1 => ⟨2, [a]⟩
  | 2 => ⟨3, [a]⟩
  | 3 => ⟨1, [a]⟩
  | 4 => ⟨4, [a]⟩
  | 5 => ⟨5, [a, b]⟩
  | _ => ⟨6, [a]⟩
theorem e_raise {k : Nat} (hk : k < 7) {a b : PyData} {c : Int} : m__law_raise [.dt (.int k), .dt a, .dt b] c = .ex (exn k a b) c := by
  unfold m__law_raise g__law_raise
  match k, hk with
  | 0, _ => simp [eq_ii, exn]
  | 1, _ => simp [eq_ii, exn]
  | 2, _ => simp [eq_ii, exn]
  | 3, _ => simp [eq_ii, exn]
  | 4, _ => simp [eq_ii, exn]
  | 5, _ => simp [eq_ii, exn, sRaise2]
  | 6, _ => simp [eq_ii, exn]
def kinds (k : Nat) : List PyData := (List.range 7).map fun j => .bool (decide (j = k))
theorem e_kinds {k : Nat} (hk : k < 7) {a b : PyData} {c : Int} : m__law_kinds (exn k a b) c = .ok (.list (kinds k)) c := by
  unfold m__law_kinds mXf g__law_kinds
  have add_ll : ∀ xs ys : List PyData, xs.length + ys.length ≤ 100 → dAdd (.list xs) (.list ys) = some (.list (xs ++ ys)) := fun xs ys h => if_pos (by rw [sizeLine_eq]; omega)
  match k, hk with
  | 0, _ => simp [exn, line_ok, add_ll, kinds, List.range, List.range.loop]
  | 1, _ => simp [exn, line_ok, add_ll, kinds, List.range, List.range.loop]
  | 2, _ => simp [exn, line_ok, add_ll, kinds, List.range, List.range.loop]
  | 3, _ => simp [exn, line_ok, add_ll, kinds, List.range, List.range.loop]
  | 4, _ => simp [exn, line_ok, add_ll, kinds, List.range, List.range.loop]
  | 5, _ => simp [exn, line_ok, add_ll, kinds, List.range, List.range.loop]
  | 6, _ => simp [exn, line_ok, add_ll, kinds, List.range, List.range.loop]
theorem e_caught {k : Nat} (hk : k < 7) {a b : PyData} {c : Int} : m__law_caught [.dt (.int k), .dt a, .dt b] c = .ok (.list (kinds k)) c := by
  have e1 := e_raise (c := c) hk (a := a) (b := b)
  have e2 := e_kinds (c := c) hk (a := a) (b := b)
  have hn : (exn k a b).n ∈ [0, 1, 2, 3, 4, 5, 6] := by
    match k, hk with
    | 0, _ => simp [exn]
    | 1, _ => simp [exn]
    | 2, _ => simp [exn]
    | 3, _ => simp [exn]
    | 4, _ => simp [exn]
    | 5, _ => simp [exn]
    | 6, _ => simp [exn]
  unfold m__law_caught g__law_caught
  generalize exn k a b = x at *
  simp only [mOf_, sSeq_, sTry_, sDrop_, fCall_, aCons_, aNil_, fNm_, List.length_cons, List.length_nil, List.replicate, List.cons_append, List.nil_append, List.getElem?_cons_zero, List.getElem?_cons_succ, bind_ok, e1, bind_ex, hdD_1, if_pos hn, fIf_, tTr_, fXis_, enX_s, List.set_cons_succ, List.set_cons_zero, decide_eq_true hn, truth_b, ofO_some, if_true, fXcall, e2, noEx_ok]
def flds (k : Nat) (a b : PyData) : PyData := if k = 5 then .tuple [a, b] else .tuple [a]
theorem e_fields {k : Nat} (hk : k < 7) {a b : PyData} {c : Int} : m__law_fields [.dt (.int k), .dt a, .dt b] c = .ok (flds k a b) c := by
  have rn : (("reason" : Str) == ("number" : Str)) = false := by decide
  unfold m__law_fields g__law_fields
  match k, hk with
  | 0, _ =>
    have e1 : m__law_raise [.dt (.int 0), .dt a, .dt b] c = .ex (exn 0 a b) c := e_raise (k := 0) (by decide)
    simp [e1, exn, nms, List.replicate, line_ok, flds, List.lookup, rn]
  | 1, _ =>
    have e1 : m__law_raise [.dt (.int 1), .dt a, .dt b] c = .ex (exn 1 a b) c := e_raise (k := 1) (by decide)
    simp [e1, exn, nms, List.replicate, line_ok, flds, List.lookup, rn]
  | 2, _ =>
    have e1 : m__law_raise [.dt (.int 2), .dt a, .dt b] c = .ex (exn 2 a b) c := e_raise (k := 2) (by decide)
    simp [e1, exn, nms, List.replicate, line_ok, flds, List.lookup, rn]
  | 3, _ =>
    have e1 : m__law_raise [.dt (.int 3), .dt a, .dt b] c = .ex (exn 3 a b) c := e_raise (k := 3) (by decide)
    simp [e1, exn, nms, List.replicate, line_ok, flds, List.lookup, rn]
  | 4, _ =>
    have e1 : m__law_raise [.dt (.int 4), .dt a, .dt b] c = .ex (exn 4 a b) c := e_raise (k := 4) (by decide)
    simp [e1, exn, nms, List.replicate, line_ok, flds, List.lookup, rn]
  | 5, _ =>
    have e1 : m__law_raise [.dt (.int 5), .dt a, .dt b] c = .ex (exn 5 a b) c := e_raise (k := 5) (by decide)
    simp [e1, exn, nms, List.replicate, line_ok, flds, List.lookup, rn]
  | 6, _ =>
    have e1 : m__law_raise [.dt (.int 6), .dt a, .dt b] c = .ex (exn 6 a b) c := e_raise (k := 6) (by decide)
    simp [e1, exn, nms, List.replicate, line_ok, flds, List.lookup, rn]
def vals : List PyData := [.str "word", .str "", .str "form", .int 0, .int 17, .int (-3), .none, .tuple [.str "a", .int 5], .str "a line", .bool true]
theorem vals_nc : ∀ d ∈ vals, Nc d ∧ DL.cnt d ≤ 3 ∧ d.depth ≤ 1 := by
  intro d hd
  unfold vals at hd
  simp only [List.mem_cons, List.not_mem_nil, or_false] at hd
  rcases hd with rfl | rfl | rfl | rfl | rfl | rfl | rfl | rfl | rfl | rfl
  · exact ⟨⟨by decide +kernel, by decide⟩, by decide, by decide⟩
  · exact ⟨⟨by decide +kernel, by decide⟩, by decide, by decide⟩
  · exact ⟨⟨by decide +kernel, by decide⟩, by decide, by decide⟩
  · exact ⟨show (0 : Int).natAbs < 2 ^ 200 by decide, by decide, by decide⟩
  · exact ⟨show (17 : Int).natAbs < 2 ^ 200 by decide, by decide, by decide⟩
  · exact ⟨show (-3 : Int).natAbs < 2 ^ 200 by decide, by decide, by decide⟩
  · exact ⟨trivial, by decide, by decide⟩
  · exact ⟨⟨⟨by decide +kernel, by decide⟩, show (5 : Int).natAbs < 2 ^ 200 by decide, trivial⟩, by decide, by decide⟩
  · exact ⟨⟨by decide +kernel, by decide⟩, by decide, by decide⟩
  · exact ⟨trivial, by decide, by decide⟩
noncomputable def gA : FS := (sPar 5 6 (fCall m__law_one (aCons (fNm 3) (aCons (fNm 1) (aCel 2 aNil)))) (fCall m__law_one (aCons (fNm 3) (aCons (fNm 1) (aCel 2 aNil)))))
noncomputable def gB : FS := (sIf (tB1 (f2 dNe (fCall m__law_caught (aCons (fNm 4) (aCons (fNm 5) (aCons (fNm 6) aNil)))) (fFz (lComp (lRng rng1 (aCons (fC (.int 7)) aNil)) [7] (tNm 7) tYs (f2 dEq (fNm 7) (fNm 4)))))) (sRet (fC (.bool false)))
  sNx)
noncomputable def gC : FS := (sIf (tB1 (f2 dNe (fBi cRepr (aCons (fCall m__law_fields (aCons (fNm 4) (aCons (fNm 5) (aCons (fNm 6) aNil)))) aNil)) (fBi cRepr (aCons (fIf (tB1 (f2 dEq (fNm 4) (fC (.int 5)))) (fDis mkTup (aCons (fNm 5) (aCons (fNm 6) aNil))) (fDis mkTup (aCons (fNm 5) aNil))) aNil)))) (sRet (fC (.bool false)))
  sNx)
noncomputable def gT : FS := (sSeq gA (sSeq gB gC))
section
variable {ds : List PyData} {c : Int} {s0 s4 s5 s6 s7 : Sl}
theorem a1 (h : Dr ds c) (hc : c < 1000000) : ∃ a ∈ vals, ∃ b ∈ vals, gA [s0, .dt (.list ds), .ce, .dt (.list vals), s4, s5, s6, s7] c = .ok (.nx [s0, .dt (.list ds), .ce, .dt (.list vals), s4, .dt a, .dt b, s7]) (c + 2) := by
  obtain ⟨a, ha, ea⟩ := one (rows := vals) h (by decide)
  obtain ⟨b, hb, eb⟩ := one (rows := vals) (h.s (by omega)) (by decide)
  refine ⟨a, ha, b, hb, ?_⟩
  have ecc : c + 1 + 1 = c + 2 := by omega
  unfold gA
  simp [ea, eb, ecc]
theorem rng_7 : rngD 0 7 = [.int 0, .int 1, .int 2, .int 3, .int 4, .int 5, .int 6] := rfl
theorem a2 {k : Nat} (hk : k < 7) {a b : PyData} : gB [s0, .dt (.list ds), .ce, .dt (.list vals), .dt (.int k), .dt a, .dt b, s7] c = .ok (.nx [s0, .dt (.list ds), .ce, .dt (.list vals), .dt (.int k), .dt a, .dt b, s7]) c := by
  have er : rng1 [.dt (.int 7)] = some [.int 0, .int 1, .int 2, .int 3, .int 4, .int 5, .int 6] := by rw [← rng_7]; rfl
  have ec := e_caught (c := c) hk (a := a) (b := b)
  have ek : kinds k = [.bool (decide ((0 : Int) = (k : Int))), .bool (decide ((1 : Int) = (k : Int))), .bool (decide ((2 : Int) = (k : Int))), .bool (decide ((3 : Int) = (k : Int))), .bool (decide ((4 : Int) = (k : Int))), .bool (decide ((5 : Int) = (k : Int))), .bool (decide ((6 : Int) = (k : Int)))] := by
    match k, hk with
    | 0, _ => rfl
    | 1, _ => rfl
    | 2, _ => rfl
    | 3, _ => rfl
    | 4, _ => rfl
    | 5, _ => rfl
    | 6, _ => rfl
  have en : dNe (.list (kinds k)) (.list (kinds k)) = some (.bool false) := ne_self (by
    rw [ek]
    exact ⟨trivial, trivial, trivial, trivial, trivial, trivial, trivial, trivial⟩) (by
    rw [ek]
    show 1 ≤ 64
    decide)
  rw [ek] at ec en
  unfold gB
  simp only [sIf_, tB1_, f2_, fCall_, aCons_, aNil_, fNm_, List.getElem?_cons_zero, List.getElem?_cons_succ, bind_ok, ec, fFz_, lComp_, lRng_, fC_, er, ofO_some, compD, tNm_, tYs_, blkE_1, List.map_cons, List.map_nil, hide_d, hide_c, List.set_cons_succ, List.set_cons_zero, eq_ii, if_true, List.length_cons, List.length_nil, Nat.zero_add, Nat.reduceAdd, line_ok (show 7 ≤ 16777216 by decide), en, asB_, Bool.false_eq_true, if_false, sNx_]
theorem a3 {k : Nat} (hk : k < 7) {a b : PyData} (ha : a ∈ vals) (hb : b ∈ vals) : gC [s0, .dt (.list ds), .ce, .dt (.list vals), .dt (.int k), .dt a, .dt b, s7] c = .ok (.nx [s0, .dt (.list ds), .ce, .dt (.list vals), .dt (.int k), .dt a, .dt b, s7]) c := by
  have ef := e_fields (c := c) hk (a := a) (b := b)
  obtain ⟨n1, n2, n3⟩ := vals_nc a ha
  obtain ⟨m1, m2, m3⟩ := vals_nc b hb
  unfold gC
  by_cases h5 : k = 5
  · have e5 : (k : Int) = 5 := by omega
    have er : cRepr [.tuple [a, b]] = some (.str (PyData.tuple [a, b]).shown) := repr_self ⟨n1, m1, trivial⟩ (by simp only [DL.cnt, DL.cntAll]; omega) (by simp only [PyData.depth, PyData.depthAll]; omega)
    have fl : flds k a b = .tuple [a, b] := if_pos h5
    rw [fl] at ef
    simp [ef, eq_ii, e5, line_ok, er]
    rw [e5] at ef
    simp [ef, er]
  · have e5 : ¬ (k : Int) = 5 := by omega
    have er : cRepr [.tuple [a]] = some (.str (PyData.tuple [a]).shown) := repr_self ⟨n1, trivial⟩ (by simp only [DL.cnt, DL.cntAll]; omega) (by simp only [PyData.depth, PyData.depthAll]; omega)
    have fl : flds k a b = .tuple [a] := if_neg h5
    rw [fl] at ef
    simp [ef, eq_ii, e5, line_ok, er]
end
theorem turns {ds : List PyData} {is : List Int} : ∀ (n j : Nat) (c : Int) (s4 s5 s6 s7 : Sl), j + n = 7 → Dr ds c → c + 2 * n < 1000000 → ∃ (t4 t5 t6 : Sl) (c' : Int), forD (tNm 4) gT ((rngD 0 7).drop j) [.sc is, .dt (.list ds), .ce, .dt (.list vals), s4, s5, s6, s7] c = .ok (.nx [.sc is, .dt (.list ds), .ce, .dt (.list vals), t4, t5, t6, s7]) c' := by
  intro n
  induction n with
  | zero =>
    intro j c s4 s5 s6 s7 hj h hc
    have : j = 7 := by omega
    subst this
    exact ⟨s4, s5, s6, c, rfl⟩
  | succ n ih =>
    intro j c s4 s5 s6 s7 hj h hc
    have hj7 : j < (rngD 0 7).length := by rw [rngD_length]; omega
    have ed : (rngD 0 7).drop j = .int (j : Int) :: (rngD 0 7).drop (j + 1) := by
      rw [List.drop_eq_getElem_cons hj7]
      congr 1
      have := (rngD_get (List.getElem?_eq_getElem hj7)).2
      rw [this, Int.zero_add]
    obtain ⟨a, ha, b, hb, e1⟩ := a1 (s0 := .sc is) (s4 := .dt (.int j)) (s5 := s5) (s6 := s6) (s7 := s7) h (by omega)
    obtain ⟨t4, t5, t6, c', e2⟩ := ih (j + 1) (c + 2) (.dt (.int j)) (.dt a) (.dt b) s7 (by omega) ⟨h.d, h.l, by have := h.p; omega, by omega⟩ (by omega)
    refine ⟨t4, t5, t6, c', ?_⟩
    rw [ed, forD, tNm_]
    have hk : j < 7 := by omega
    have et : gT [.sc is, .dt (.list ds), .ce, .dt (.list vals), .dt (.int j), s5, s6, s7] c = .ok (.nx [.sc is, .dt (.list ds), .ce, .dt (.list vals), .dt (.int j), .dt a, .dt b, s7]) (c + 2) := by
      unfold gT
      simp only [sSeq_, e1, bind_ok, a2 hk, a3 hk ha hb]
    simp only [List.set_cons_succ, List.set_cons_zero, et, bind_ok]
    exact e2
theorem limits {c : Int} : m__law_limits_right [] c = .ok (.bool true) c := by
  have er : cRepr [.list [.int 1000000, .int 16, .int 40, .int 12, .int 60, .int 120, .int 40, .int 8000, .int 4000, .int 200]] = _ := repr_self (d := .list [.int 1000000, .int 16, .int 40, .int 12, .int 60, .int 120, .int 40, .int 8000, .int 4000, .int 200])
    (by refine ⟨?_, ?_, ?_, ?_, ?_, ?_, ?_, ?_, ?_, ?_, trivial⟩ <;> (show Int.natAbs _ < 2 ^ 200; decide)) (by decide) (by decide)
  unfold m__law_limits_right g__law_limits_right
  simp [line_ok, er, List.replicate]
theorem law_true : ∀ is : List Int, is.length ≤ 63 → ∃ c, m_law [.sc is] 0 = .ok (.bool true) c := by
  intro is hl
  obtain ⟨ds, ed, hd, hlen⟩ := e_law_draws (c := 0) hl
  have h0 : Dr ds 0 := ⟨hd, by omega, by decide, by decide⟩
  obtain ⟨t4, t5, t6, c1, e1⟩ := turns (is := is) 7 0 0 .un .un .un .un rfl h0 (by decide)
  rw [List.drop_zero] at e1
  have er : rng1 [.dt (.int 7)] = some (rngD 0 7) := rfl
  have e : m_law = mOf 8 (sSeq (sSet 1 (fCall m__law_draws (aSc 0 aNil))) (sCel 2 (sSeq (sIf (tNo (tTr (fCall m__law_limits_right aNil))) (sRet (fC (.bool false))) sNx) (sSeq (sSet 3 (fDis mkLst (aCons (fC (.str "word")) (aCons (fC (.str "")) (aCons (fC (.str "form")) (aCons (fC (.int 0)) (aCons (fC (.int 17)) (aCons (f1 dNeg (fC (.int 3))) (aCons (fC .none) (aCons (fDis mkTup (aCons (fC (.str "a")) (aCons (fC (.int 5)) aNil))) (aCons (fC (.str "a line")) (aCons (fC (.bool true)) aNil)))))))))))) (sSeq (sFor (lRng rng1 (aCons (fC (.int 7)) aNil)) (tNm 4) gT) (sRet (fC (.bool true)))))))) := rfl
  have ev : ([.str "word", .str "", .str "form", .int 0, .int 17, .int (-3), .none, .tuple [.str "a", .int 5], .str "a line", .bool true] : List PyData) = vals := rfl
  have lv : lineOk vals.length = true := rfl
  refine ⟨0, ?_⟩
  rw [e, mOf_]
  simp only [List.length_cons, List.length_nil, List.replicate, List.cons_append, List.nil_append, sSeq_, sSet_, fCall_, aSc_, aNil_, List.getElem?_cons_zero, bind_ok, ed, List.set_cons_succ, List.set_cons_zero, sCel_, blkE_0, List.map_cons, List.map_nil, hide_s, hide_d, hide_u, sIf_, tNo_, tTr_, limits, ofO_some, truth_b, Bool.not_true, Bool.false_eq_true, if_false, sNx_, fDis_, aCons_, fC_, f1_, dNeg_i, mkTup_, mkLst_, dts_1, dts_0, Option.map_some, Nat.zero_add, Nat.reduceAdd, line_ok (show 2 ≤ 16777216 by decide), line_ok (show 10 ≤ 16777216 by decide), if_true, ev, lv, sFor_, lRng_, er, e1, sRet_]
end K00

set_option Elab.async false
set_option linter.all false
set_option maxRecDepth 100000
set_option maxHeartbeats 4000000
namespace K00
open PySem PySem.Spec PyProof.Rows L2 L2.DL

def topS (i : Nat) : Stmt := PySem.Challenge.pw_leastawry_k00_errors_and_limits.main.body.getD i (.Pass ⟨0, 0, 0, 0⟩)
section
variable {P : Program} {w : World} {K : PySem.W.Frag} {mg : Str → Option Value} {base : Heap} {C : Option Addr} {C_AwryError I_AwryError C_ReasonError I_ReasonError C_ArgumentError I_ArgumentError C_CheckError I_CheckError C_PaperError I_PaperError C_TooMany I_TooMany C_TextError I_TextError C_LogError I_LogError C_CommandError I_CommandError : Addr}
theorem sc__law_draws : FnScope ["script", "draws", "cell", "rest", "k", "mixed"] ["script"] (defScope (topS 21)) := ⟨rfl, rfl, rfl, by decide +kernel, rfl, by decide +kernel, by decide +kernel⟩
theorem kn__law_draws {f_ : Addr} {fd_ : FuncData} (F_ : Fun K "_law_draws" "_law_draws" (topS 21) f_ fd_) (h_ : mg "_law_draws" = some (.ref f_)) (z_abs : mg "abs" = none) (z_range : mg "range" = none) (z_int : mg "int" = none) : Kn P w K mg base C [⟨C_ArgumentError, ["reason"]⟩, ⟨C_CheckError, ["reason"]⟩, ⟨C_PaperError, ["reason"]⟩, ⟨C_TooMany, ["reason"]⟩, ⟨C_TextError, ["at"]⟩, ⟨C_LogError, ["number", "reason"]⟩, ⟨C_CommandError, ["line"]⟩] "_law_draws" 1 1 m__law_draws :=
  kn_of (ps := ["script"]) F_ h_ (F_.binds fun _ _ _ _ _ _ us hl => match us, hl with | [_], _ => rfl) sc__law_draws fun cdv A outer s H E B Z =>
  (dss_cons (ds_ow (i := 1) Z.nd rfl (by first | exact .inl rfl | exact .inr rfl) (df_lst da_nil))
  (dss_cons (ds_for (vs := [2]) Z (di_seq Z.hk (de_fz (df_sc 0 Z.hk (pv 0)))) (dg_nm 2 (pg_name Z.nd rfl (by first | exact .inl rfl | exact .inr rfl)) (by decide))
  (dss_cons (ds_set (i := 3) Z.nd rfl (by first | exact .inl rfl | exact .inr rfl) (de_bi vcl_abs (by rfl) z_abs (by decide +kernel) (da_cons (de_nm 2 (pv 2)) da_nil)))
  (dss_one (ds_if (dt_cmp vop_ge (nomark _) (de_nm 3 (pv 3)) (de_op vop_pow de_int de_int)) (dss_one (ds_for (vs := [4]) Z (di_rng1 (by rfl) z_range (da_cons de_int da_nil)) (dg_nm 4 (pg_name Z.nd rfl (by first | exact .inl rfl | exact .inr rfl)) (by decide))
  (dss_one (ds_if (dt_cmp vop_gt (nomark _) (de_nm 3 (pv 3)) de_int) (dss_cons (ds_app 1 (pv 1) (de_op vop_mod (de_ty vcl_int (by rfl) z_int (by decide +kernel) (da_cons (de_nm 3 (pv 3)) da_nil)) de_int))
  (dss_one (ds_set (i := 3) Z.nd rfl (by first | exact .inl rfl | exact .inr rfl) (de_op vop_div (de_nm 3 (pv 3)) de_int))))
  dss_nil))))
  (dss_cons (ds_set (i := 5) Z.nd rfl (by first | exact .inl rfl | exact .inr rfl) (de_op vop_mod (de_ty vcl_int (by rfl) z_int (by decide +kernel) (da_cons (de_op vop_add (de_op vop_mul (de_nm 3 (pv 3)) de_int) de_int) da_nil)) de_int))
  (dss_one (ds_for (vs := [4]) Z (di_rng1 (by rfl) z_range (da_cons de_int da_nil)) (dg_nm 4 (pg_name Z.nd rfl (by first | exact .inl rfl | exact .inr rfl)) (by decide))
  (dss_cons (ds_set (i := 5) Z.nd rfl (by first | exact .inl rfl | exact .inr rfl) (de_op vop_mod (de_ty vcl_int (by rfl) z_int (by decide +kernel) (da_cons (de_op vop_add (de_op vop_add (de_op vop_mul (de_nm 5 (pv 5)) de_int) (de_op vop_mul de_int (de_nm 4 (pv 4)))) de_int) da_nil)) de_int))
  (dss_one (ds_app 1 (pv 1) (de_op vop_div (de_nm 5 (pv 5)) de_int)))))))))))
  (dss_one (ds_fz 1 (ds_ret (de_nm 1 (pv 1)))))))
theorem sc__law_more : FnScope ["draws", "place", "mixed", "k"] ["draws", "place"] (defScope (topS 22)) := ⟨rfl, rfl, rfl, by decide +kernel, rfl, by decide +kernel, by decide +kernel⟩
theorem kn__law_more {f_ : Addr} {fd_ : FuncData} (F_ : Fun K "_law_more" "_law_more" (topS 22) f_ fd_) (h_ : mg "_law_more" = some (.ref f_)) (z_len : mg "len" = none) (z_int : mg "int" = none) (z_range : mg "range" = none) : Kn P w K mg base C [⟨C_ArgumentError, ["reason"]⟩, ⟨C_CheckError, ["reason"]⟩, ⟨C_PaperError, ["reason"]⟩, ⟨C_TooMany, ["reason"]⟩, ⟨C_TextError, ["at"]⟩, ⟨C_LogError, ["number", "reason"]⟩, ⟨C_CommandError, ["line"]⟩] "_law_more" 1 2 m__law_more :=
  kn_of (ps := ["draws", "place"]) F_ h_ (F_.binds fun _ _ _ _ _ _ us hl => match us, hl with | [_, _], _ => rfl) sc__law_more fun cdv A outer s H E B Z =>
  (dss_cons (ds_set (i := 2) Z.nd rfl (by first | exact .inl rfl | exact .inr rfl) (de_op vop_mod (de_ty vcl_int (by rfl) z_int (by decide +kernel) (da_cons (de_op vop_add (de_op vop_add (de_op vop_mul (de_nm 1 (pv 1)) de_int) (de_bi vcl_len (by rfl) z_len (by decide +kernel) (da_cons (de_nm 0 (pv 0)) da_nil))) de_int) da_nil)) de_int))
  (dss_cons (ds_for (vs := [3]) Z (di_rng1 (by rfl) z_range (da_cons de_int da_nil)) (dg_nm 3 (pg_name Z.nd rfl (by first | exact .inl rfl | exact .inr rfl)) (by decide))
  (dss_cons (ds_if (dt_tr Z.hk (de_nm 0 (pv 0))) (dss_one (ds_set (i := 2) Z.nd rfl (by first | exact .inl rfl | exact .inr rfl) (de_op vop_add (de_nm 2 (pv 2)) (de_ix vix (fun _ _ => rfl) (de_nm 0 (pv 0)) (de_op vop_mod (de_ty vcl_int (by rfl) z_int (by decide +kernel) (da_cons (de_op vop_add (de_op vop_mul (de_nm 1 (pv 1)) (de_op vop_add (de_nm 3 (pv 3)) de_int)) (de_nm 3 (pv 3))) da_nil)) (de_bi vcl_len (by rfl) z_len (by decide +kernel) (da_cons (de_nm 0 (pv 0)) da_nil)))))))
  dss_nil)
  (dss_one (ds_set (i := 2) Z.nd rfl (by first | exact .inl rfl | exact .inr rfl) (de_op vop_mod (de_ty vcl_int (by rfl) z_int (by decide +kernel) (da_cons (de_op vop_add (de_op vop_add (de_op vop_mul (de_nm 2 (pv 2)) de_int) (de_op vop_mul de_int (de_nm 3 (pv 3)))) de_int) da_nil)) de_int)))))
  (dss_one (ds_ret (de_op vop_div (de_nm 2 (pv 2)) de_int)))))
theorem sc__law_take : FnScope ["draws", "at", "many", "place"] ["draws", "at", "many"] (defScope (topS 23)) := ⟨rfl, rfl, rfl, by decide +kernel, rfl, by decide +kernel, by decide +kernel⟩
theorem kn__law_take {f_ : Addr} {fd_ : FuncData} (F_ : Fun K "_law_take" "_law_take" (topS 23) f_ fd_) (h_ : mg "_law_take" = some (.ref f_)) (G__law_more : Kn P w K mg base C [⟨C_ArgumentError, ["reason"]⟩, ⟨C_CheckError, ["reason"]⟩, ⟨C_PaperError, ["reason"]⟩, ⟨C_TooMany, ["reason"]⟩, ⟨C_TextError, ["at"]⟩, ⟨C_LogError, ["number", "reason"]⟩, ⟨C_CommandError, ["line"]⟩] "_law_more" 1 2 m__law_more) (z_len : mg "len" = none) (z_int : mg "int" = none) : Kn P w K mg base C [⟨C_ArgumentError, ["reason"]⟩, ⟨C_CheckError, ["reason"]⟩, ⟨C_PaperError, ["reason"]⟩, ⟨C_TooMany, ["reason"]⟩, ⟨C_TextError, ["at"]⟩, ⟨C_LogError, ["number", "reason"]⟩, ⟨C_CommandError, ["line"]⟩] "_law_take" 2 3 m__law_take :=
  kn_of (ps := ["draws", "at", "many"]) F_ h_ (F_.binds fun _ _ _ _ _ _ us hl => match us, hl with | [_, _, _], _ => rfl) sc__law_take fun cdv A outer s H E B Z =>
  (dss_cons (ds_set (i := 3) Z.nd rfl (by first | exact .inl rfl | exact .inr rfl) (de_cell 1 (pv 1)))
  (dss_cons (ds_cell 1 (pv 1) (de_op vop_add (de_nm 3 (pv 3)) de_int))
  (dss_one (ds_ret (de_op vop_mod (de_ty vcl_int (by rfl) z_int (by decide +kernel) (da_cons (de_if (dt_cmp vop_lt (nomark _) (de_nm 3 (pv 3)) (de_bi vcl_len (by rfl) z_len (by decide +kernel) (da_cons (de_nm 0 (pv 0)) da_nil))) (de_ix vix (fun _ _ => rfl) (de_nm 0 (pv 0)) (de_nm 3 (pv 3))) (de_call Z G__law_more (by decide) (by rfl) (falen_cons (falen_cons falen_nil)) (da_cons (de_nm 0 (pv 0)) (da_cons (de_nm 3 (pv 3)) da_nil)))) da_nil)) (de_nm 2 (pv 2)))))))
theorem sc__law_one : FnScope ["rows", "draws", "at"] ["rows", "draws", "at"] (defScope (topS 24)) := ⟨rfl, rfl, rfl, by decide +kernel, rfl, by decide +kernel, by decide +kernel⟩
theorem kn__law_one {f_ : Addr} {fd_ : FuncData} (F_ : Fun K "_law_one" "_law_one" (topS 24) f_ fd_) (h_ : mg "_law_one" = some (.ref f_)) (G__law_take : Kn P w K mg base C [⟨C_ArgumentError, ["reason"]⟩, ⟨C_CheckError, ["reason"]⟩, ⟨C_PaperError, ["reason"]⟩, ⟨C_TooMany, ["reason"]⟩, ⟨C_TextError, ["at"]⟩, ⟨C_LogError, ["number", "reason"]⟩, ⟨C_CommandError, ["line"]⟩] "_law_take" 2 3 m__law_take) (z_len : mg "len" = none) : Kn P w K mg base C [⟨C_ArgumentError, ["reason"]⟩, ⟨C_CheckError, ["reason"]⟩, ⟨C_PaperError, ["reason"]⟩, ⟨C_TooMany, ["reason"]⟩, ⟨C_TextError, ["at"]⟩, ⟨C_LogError, ["number", "reason"]⟩, ⟨C_CommandError, ["line"]⟩] "_law_one" 3 3 m__law_one :=
  kn_of (ps := ["rows", "draws", "at"]) F_ h_ (F_.binds fun _ _ _ _ _ _ us hl => match us, hl with | [_, _, _], _ => rfl) sc__law_one fun cdv A outer s H E B Z =>
  (dss_one (ds_ret (de_ix vix (fun _ _ => rfl) (de_nm 0 (pv 0)) (de_call Z G__law_take (by decide) (by rfl) (falen_cons (falen_cel (falen_cons falen_nil))) (da_cons (de_nm 1 (pv 1)) (da_cel 2 (pv 2) (da_cons (de_bi vcl_len (by rfl) z_len (by decide +kernel) (da_cons (de_nm 0 (pv 0)) da_nil)) da_nil)))))))
theorem sc__law_limits_right : FnScope ["told", "due"] [] (defScope (topS 25)) := ⟨rfl, rfl, rfl, by decide +kernel, rfl, by decide +kernel, by decide +kernel⟩
theorem kn__law_limits_right {f_ : Addr} {fd_ : FuncData} (F_ : Fun K "_law_limits_right" "_law_limits_right" (topS 25) f_ fd_) (h_ : mg "_law_limits_right" = some (.ref f_)) (z_repr : mg "repr" = none) {k_MAX_LINES : Tok} (c_MAX_LINES : mg "MAX_LINES" = some (.int 200 k_MAX_LINES)) {k_MAX_TRIED : Tok} (c_MAX_TRIED : mg "MAX_TRIED" = some (.int 4000 k_MAX_TRIED)) {k_MAX_TEXT : Tok} (c_MAX_TEXT : mg "MAX_TEXT" = some (.int 8000 k_MAX_TEXT)) {k_MAX_TERMS : Tok} (c_MAX_TERMS : mg "MAX_TERMS" = some (.int 40 k_MAX_TERMS)) {k_MAX_ROWS : Tok} (c_MAX_ROWS : mg "MAX_ROWS" = some (.int 120 k_MAX_ROWS)) {k_MAX_SETTINGS : Tok} (c_MAX_SETTINGS : mg "MAX_SETTINGS" = some (.int 60 k_MAX_SETTINGS)) {k_MAX_COLUMNS : Tok} (c_MAX_COLUMNS : mg "MAX_COLUMNS" = some (.int 12 k_MAX_COLUMNS)) {k_MAX_UNITS : Tok} (c_MAX_UNITS : mg "MAX_UNITS" = some (.int 40 k_MAX_UNITS)) {k_MAX_NAME : Tok} (c_MAX_NAME : mg "MAX_NAME" = some (.int 16 k_MAX_NAME)) {k_MAX_PART : Tok} (c_MAX_PART : mg "MAX_PART" = some (.int 1000000 k_MAX_PART)) : Kn P w K mg base C [⟨C_ArgumentError, ["reason"]⟩, ⟨C_CheckError, ["reason"]⟩, ⟨C_PaperError, ["reason"]⟩, ⟨C_TooMany, ["reason"]⟩, ⟨C_TextError, ["at"]⟩, ⟨C_LogError, ["number", "reason"]⟩, ⟨C_CommandError, ["line"]⟩] "_law_limits_right" 1 0 m__law_limits_right :=
  kn_of (ps := []) F_ h_ (F_.binds fun _ _ _ _ _ _ us hl => match us, hl with | [], _ => rfl) sc__law_limits_right fun cdv A outer s H E B Z =>
  (dss_cons (ds_set (i := 0) Z.nd rfl (by first | exact .inl rfl | exact .inr rfl) (de_lst (da_cons (de_gi (by rfl) c_MAX_PART) (da_cons (de_gi (by rfl) c_MAX_NAME) (da_cons (de_gi (by rfl) c_MAX_UNITS) (da_cons (de_gi (by rfl) c_MAX_COLUMNS) (da_cons (de_gi (by rfl) c_MAX_SETTINGS) (da_cons (de_gi (by rfl) c_MAX_ROWS) (da_cons (de_gi (by rfl) c_MAX_TERMS) (da_cons (de_gi (by rfl) c_MAX_TEXT) (da_cons (de_gi (by rfl) c_MAX_TRIED) (da_cons (de_gi (by rfl) c_MAX_LINES) da_nil))))))))))))
  (dss_cons (ds_set (i := 1) Z.nd rfl (by first | exact .inl rfl | exact .inr rfl) (de_lst (da_cons de_int (da_cons de_int (da_cons de_int (da_cons de_int (da_cons de_int (da_cons de_int (da_cons de_int (da_cons de_int (da_cons de_int (da_cons de_int da_nil))))))))))))
  (dss_one (ds_ret (de_cmp (vop_eq Z.h64) (nomark _) (de_bi (vcl_repr Z.gd Z.hu) (by rfl) z_repr (by decide +kernel) (da_cons (de_nm 0 (pv 0)) da_nil)) (de_bi (vcl_repr Z.gd Z.hu) (by rfl) z_repr (by decide +kernel) (da_cons (de_nm 1 (pv 1)) da_nil)))))))
theorem sc__law_raise : FnScope ["k", "one", "other"] ["k", "one", "other"] (defScope (topS 26)) := ⟨rfl, rfl, rfl, by decide +kernel, rfl, by decide +kernel, by decide +kernel⟩
theorem kn__law_raise {f_ : Addr} {fd_ : FuncData} (F_ : Fun K "_law_raise" "_law_raise" (topS 26) f_ fd_) (h_ : mg "_law_raise" = some (.ref f_)) (t_ArgumentError : PySem.AwX.XTxt P K mg "ArgumentError" C_ArgumentError I_ArgumentError "reason") (t_PaperError : PySem.AwX.XTxt P K mg "PaperError" C_PaperError I_PaperError "reason") (t_TooMany : PySem.AwX.XTxt P K mg "TooMany" C_TooMany I_TooMany "reason") (t_CheckError : PySem.AwX.XTxt P K mg "CheckError" C_CheckError I_CheckError "reason") (t_TextError : PySem.AwX.XTxt P K mg "TextError" C_TextError I_TextError "at") (t_LogError : PySem.AwX.XTxt2 P K mg "LogError" C_LogError I_LogError) (t_CommandError : PySem.AwX.XTxt P K mg "CommandError" C_CommandError I_CommandError "line") : Kn P w K mg base C [⟨C_ArgumentError, ["reason"]⟩, ⟨C_CheckError, ["reason"]⟩, ⟨C_PaperError, ["reason"]⟩, ⟨C_TooMany, ["reason"]⟩, ⟨C_TextError, ["at"]⟩, ⟨C_LogError, ["number", "reason"]⟩, ⟨C_CommandError, ["line"]⟩] "_law_raise" 1 3 m__law_raise :=
  kn_of (ps := ["k", "one", "other"]) F_ h_ (F_.binds fun _ _ _ _ _ _ us hl => match us, hl with | [_, _, _], _ => rfl) sc__law_raise fun cdv A outer s H E B Z =>
  (dss_cons (ds_if (dt_cmp (vop_eq Z.h64) (nomark _) (de_nm 0 (pv 0)) de_int) (dss_one (ds_raise (n := 0) Z t_ArgumentError PySem.AwX.nm_reason rfl (de_nm 1 (pv 1)) (by rfl)))
  dss_nil)
  (dss_cons (ds_if (dt_cmp (vop_eq Z.h64) (nomark _) (de_nm 0 (pv 0)) de_int) (dss_one (ds_raise (n := 2) Z t_PaperError PySem.AwX.nm_reason rfl (de_nm 1 (pv 1)) (by rfl)))
  dss_nil)
  (dss_cons (ds_if (dt_cmp (vop_eq Z.h64) (nomark _) (de_nm 0 (pv 0)) de_int) (dss_one (ds_raise (n := 3) Z t_TooMany PySem.AwX.nm_reason rfl (de_nm 1 (pv 1)) (by rfl)))
  dss_nil)
  (dss_cons (ds_if (dt_cmp (vop_eq Z.h64) (nomark _) (de_nm 0 (pv 0)) de_int) (dss_one (ds_raise (n := 1) Z t_CheckError PySem.AwX.nm_reason rfl (de_nm 1 (pv 1)) (by rfl)))
  dss_nil)
  (dss_cons (ds_if (dt_cmp (vop_eq Z.h64) (nomark _) (de_nm 0 (pv 0)) de_int) (dss_one (ds_raise (n := 4) Z t_TextError PySem.AwX.nm_at rfl (de_nm 1 (pv 1)) (by rfl)))
  dss_nil)
  (dss_cons (ds_if (dt_cmp (vop_eq Z.h64) (nomark _) (de_nm 0 (pv 0)) de_int) (dss_one (ds_raise2 (n := 5) Z t_LogError rfl (de_nm 1 (pv 1)) (de_nm 2 (pv 2)) (by rfl)))
  dss_nil)
  (dss_one (ds_raise (n := 6) Z t_CommandError PySem.AwX.nm_line rfl (de_nm 1 (pv 1)) (by rfl)))))))))
theorem sc__law_kinds : FnScope ["e", "plain"] ["e"] (defScope (topS 27)) := ⟨rfl, rfl, rfl, by decide +kernel, rfl, by decide +kernel, by decide +kernel⟩
theorem kn__law_kinds {f_ : Addr} {fd_ : FuncData} (F_ : Fun K "_law_kinds" "_law_kinds" (topS 27) f_ fd_) (h_ : mg "_law_kinds" = some (.ref f_)) (z_isinstance : mg "isinstance" = none) (c_CheckError : mg "CheckError" = some (.ref C_CheckError)) (c_TooMany : mg "TooMany" = some (.ref C_TooMany)) (c_PaperError : mg "PaperError" = some (.ref C_PaperError)) (c_ArgumentError : mg "ArgumentError" = some (.ref C_ArgumentError)) (c_CommandError : mg "CommandError" = some (.ref C_CommandError)) (c_LogError : mg "LogError" = some (.ref C_LogError)) (c_TextError : mg "TextError" = some (.ref C_TextError)) (xi_CheckError : ∀ (m : Nat) (C : Addr) (ns : List Str), ([⟨C_ArgumentError, ["reason"]⟩, ⟨C_CheckError, ["reason"]⟩, ⟨C_PaperError, ["reason"]⟩, ⟨C_TooMany, ["reason"]⟩, ⟨C_TextError, ["at"]⟩, ⟨C_LogError, ["number", "reason"]⟩, ⟨C_CommandError, ["line"]⟩] : List XC)[m]? = some ⟨C, ns⟩ → XisOk K C ∧ PySem.W.kitOne K (.ref C) (.ref C_CheckError) = some (decide (m ∈ ([1] : List Nat)))) (xi_TooMany : ∀ (m : Nat) (C : Addr) (ns : List Str), ([⟨C_ArgumentError, ["reason"]⟩, ⟨C_CheckError, ["reason"]⟩, ⟨C_PaperError, ["reason"]⟩, ⟨C_TooMany, ["reason"]⟩, ⟨C_TextError, ["at"]⟩, ⟨C_LogError, ["number", "reason"]⟩, ⟨C_CommandError, ["line"]⟩] : List XC)[m]? = some ⟨C, ns⟩ → XisOk K C ∧ PySem.W.kitOne K (.ref C) (.ref C_TooMany) = some (decide (m ∈ ([3] : List Nat)))) (xi_PaperError : ∀ (m : Nat) (C : Addr) (ns : List Str), ([⟨C_ArgumentError, ["reason"]⟩, ⟨C_CheckError, ["reason"]⟩, ⟨C_PaperError, ["reason"]⟩, ⟨C_TooMany, ["reason"]⟩, ⟨C_TextError, ["at"]⟩, ⟨C_LogError, ["number", "reason"]⟩, ⟨C_CommandError, ["line"]⟩] : List XC)[m]? = some ⟨C, ns⟩ → XisOk K C ∧ PySem.W.kitOne K (.ref C) (.ref C_PaperError) = some (decide (m ∈ ([2] : List Nat)))) (xi_ArgumentError : ∀ (m : Nat) (C : Addr) (ns : List Str), ([⟨C_ArgumentError, ["reason"]⟩, ⟨C_CheckError, ["reason"]⟩, ⟨C_PaperError, ["reason"]⟩, ⟨C_TooMany, ["reason"]⟩, ⟨C_TextError, ["at"]⟩, ⟨C_LogError, ["number", "reason"]⟩, ⟨C_CommandError, ["line"]⟩] : List XC)[m]? = some ⟨C, ns⟩ → XisOk K C ∧ PySem.W.kitOne K (.ref C) (.ref C_ArgumentError) = some (decide (m ∈ ([0] : List Nat)))) (xi_CommandError : ∀ (m : Nat) (C : Addr) (ns : List Str), ([⟨C_ArgumentError, ["reason"]⟩, ⟨C_CheckError, ["reason"]⟩, ⟨C_PaperError, ["reason"]⟩, ⟨C_TooMany, ["reason"]⟩, ⟨C_TextError, ["at"]⟩, ⟨C_LogError, ["number", "reason"]⟩, ⟨C_CommandError, ["line"]⟩] : List XC)[m]? = some ⟨C, ns⟩ → XisOk K C ∧ PySem.W.kitOne K (.ref C) (.ref C_CommandError) = some (decide (m ∈ ([6] : List Nat)))) (xi_LogError : ∀ (m : Nat) (C : Addr) (ns : List Str), ([⟨C_ArgumentError, ["reason"]⟩, ⟨C_CheckError, ["reason"]⟩, ⟨C_PaperError, ["reason"]⟩, ⟨C_TooMany, ["reason"]⟩, ⟨C_TextError, ["at"]⟩, ⟨C_LogError, ["number", "reason"]⟩, ⟨C_CommandError, ["line"]⟩] : List XC)[m]? = some ⟨C, ns⟩ → XisOk K C ∧ PySem.W.kitOne K (.ref C) (.ref C_LogError) = some (decide (m ∈ ([5] : List Nat)))) (xi_TextError : ∀ (m : Nat) (C : Addr) (ns : List Str), ([⟨C_ArgumentError, ["reason"]⟩, ⟨C_CheckError, ["reason"]⟩, ⟨C_PaperError, ["reason"]⟩, ⟨C_TooMany, ["reason"]⟩, ⟨C_TextError, ["at"]⟩, ⟨C_LogError, ["number", "reason"]⟩, ⟨C_CommandError, ["line"]⟩] : List XC)[m]? = some ⟨C, ns⟩ → XisOk K C ∧ PySem.W.kitOne K (.ref C) (.ref C_TextError) = some (decide (m ∈ ([4] : List Nat)))) (x_isk : XisK K) : KnX P w K mg base C [⟨C_ArgumentError, ["reason"]⟩, ⟨C_CheckError, ["reason"]⟩, ⟨C_PaperError, ["reason"]⟩, ⟨C_TooMany, ["reason"]⟩, ⟨C_TextError, ["at"]⟩, ⟨C_LogError, ["number", "reason"]⟩, ⟨C_CommandError, ["line"]⟩] "_law_kinds" 1 m__law_kinds :=
  knX_of (ps := ["e"]) F_ h_ (F_.binds fun _ _ _ _ _ _ us hl => match us, hl with | [_], _ => rfl) rfl sc__law_kinds fun cdv A outer s H E B a oe D dd hz hf =>
  (dss_cons (ds_set (i := 1) sc__law_kinds.nd rfl (by first | exact .inl rfl | exact .inr rfl) (de_lst (da_cons (pe_xisP (ns := [0]) (v := .ref C_ArgumentError) (List.mem_cons_self ..) rfl xi_ArgumentError (fun _ h => h) x_isk hz hf (by rfl) z_isinstance (pv 0) (pe_glob (v := .ref _) (by rfl) c_ArgumentError rfl)) (da_cons (pe_xisP (ns := [2]) (v := .ref C_PaperError) (List.mem_cons_self ..) rfl xi_PaperError (fun _ h => h) x_isk hz hf (by rfl) z_isinstance (pv 0) (pe_glob (v := .ref _) (by rfl) c_PaperError rfl)) (da_cons (pe_xisP (ns := [3]) (v := .ref C_TooMany) (List.mem_cons_self ..) rfl xi_TooMany (fun _ h => h) x_isk hz hf (by rfl) z_isinstance (pv 0) (pe_glob (v := .ref _) (by rfl) c_TooMany rfl)) (da_cons (pe_xisP (ns := [1]) (v := .ref C_CheckError) (List.mem_cons_self ..) rfl xi_CheckError (fun _ h => h) x_isk hz hf (by rfl) z_isinstance (pv 0) (pe_glob (v := .ref _) (by rfl) c_CheckError rfl)) da_nil))))))
  (dss_one (ds_ret (de_op vop_add (de_nm 1 (pv 1)) (de_lst (da_cons (pe_xisP (ns := [4]) (v := .ref C_TextError) (List.mem_cons_self ..) rfl xi_TextError (fun _ h => h) x_isk hz hf (by rfl) z_isinstance (pv 0) (pe_glob (v := .ref _) (by rfl) c_TextError rfl)) (da_cons (pe_xisP (ns := [5]) (v := .ref C_LogError) (List.mem_cons_self ..) rfl xi_LogError (fun _ h => h) x_isk hz hf (by rfl) z_isinstance (pv 0) (pe_glob (v := .ref _) (by rfl) c_LogError rfl)) (da_cons (pe_xisP (ns := [6]) (v := .ref C_CommandError) (List.mem_cons_self ..) rfl xi_CommandError (fun _ h => h) x_isk hz hf (by rfl) z_isinstance (pv 0) (pe_glob (v := .ref _) (by rfl) c_CommandError rfl)) da_nil))))))))
theorem sc__law_caught : FnScope ["k", "one", "other", "e"] ["k", "one", "other"] (defScope (topS 28)) := ⟨rfl, rfl, rfl, by decide +kernel, rfl, by decide +kernel, by decide +kernel⟩
theorem kn__law_caught {f_ : Addr} {fd_ : FuncData} (F_ : Fun K "_law_caught" "_law_caught" (topS 28) f_ fd_) (h_ : mg "_law_caught" = some (.ref f_)) (G__law_raise : Kn P w K mg base C [⟨C_ArgumentError, ["reason"]⟩, ⟨C_CheckError, ["reason"]⟩, ⟨C_PaperError, ["reason"]⟩, ⟨C_TooMany, ["reason"]⟩, ⟨C_TextError, ["at"]⟩, ⟨C_LogError, ["number", "reason"]⟩, ⟨C_CommandError, ["line"]⟩] "_law_raise" 1 3 m__law_raise) (G__law_kinds : KnX P w K mg base C [⟨C_ArgumentError, ["reason"]⟩, ⟨C_CheckError, ["reason"]⟩, ⟨C_PaperError, ["reason"]⟩, ⟨C_TooMany, ["reason"]⟩, ⟨C_TextError, ["at"]⟩, ⟨C_LogError, ["number", "reason"]⟩, ⟨C_CommandError, ["line"]⟩] "_law_kinds" 1 m__law_kinds) (z_ValueError : mg "ValueError" = none) (z_isinstance : mg "isinstance" = none) (c_AwryError : mg "AwryError" = some (.ref C_AwryError)) (cc_AwryError : Catches K [⟨C_ArgumentError, ["reason"]⟩, ⟨C_CheckError, ["reason"]⟩, ⟨C_PaperError, ["reason"]⟩, ⟨C_TooMany, ["reason"]⟩, ⟨C_TextError, ["at"]⟩, ⟨C_LogError, ["number", "reason"]⟩, ⟨C_CommandError, ["line"]⟩] (.ref C_AwryError) [0, 1, 2, 3, 4, 5, 6]) (xi_ValueError : ∀ (m : Nat) (C : Addr) (ns : List Str), ([⟨C_ArgumentError, ["reason"]⟩, ⟨C_CheckError, ["reason"]⟩, ⟨C_PaperError, ["reason"]⟩, ⟨C_TooMany, ["reason"]⟩, ⟨C_TextError, ["at"]⟩, ⟨C_LogError, ["number", "reason"]⟩, ⟨C_CommandError, ["line"]⟩] : List XC)[m]? = some ⟨C, ns⟩ → XisOk K C ∧ PySem.W.kitOne K (.ref C) (.type "ValueError") = some (decide (m ∈ ([0, 1, 2, 3, 4, 5, 6] : List Nat)))) (x_isk : XisK K) : Kn P w K mg base C [⟨C_ArgumentError, ["reason"]⟩, ⟨C_CheckError, ["reason"]⟩, ⟨C_PaperError, ["reason"]⟩, ⟨C_TooMany, ["reason"]⟩, ⟨C_TextError, ["at"]⟩, ⟨C_LogError, ["number", "reason"]⟩, ⟨C_CommandError, ["line"]⟩] "_law_caught" 2 3 m__law_caught :=
  kn_of (ps := ["k", "one", "other"]) F_ h_ (F_.binds fun _ _ _ _ _ _ us hl => match us, hl with | [_, _, _], _ => rfl) sc__law_caught fun cdv A outer s H E B Z =>
  (dss_cons (ds_try Z rfl rfl (fun _ _ _ Z => (dss_one (ds_expr (de_call Z G__law_raise (by decide) (by rfl) (falen_cons (falen_cons (falen_cons falen_nil))) (da_cons (de_nm 0 (pv 0)) (da_cons (de_nm 1 (pv 1)) (da_cons (de_nm 2 (pv 2)) da_nil))))))) (.named (nsl := [0, 1, 2, 3, 4, 5, 6]) ⟨by rfl, by decide, .inl c_AwryError⟩ rfl (by rfl) (cc_AwryError) (fun _ _ _ _ _ _ _ hz hf => (de_if (dt_tr Z.hk (pe_xisP (ns := [0, 1, 2, 3, 4, 5, 6]) (v := .ty "ValueError") (List.mem_cons_self ..) rfl xi_ValueError (fun _ h => h) x_isk hz hf (by rfl) z_isinstance (pv 3) (pe_bltn (v := .ty "ValueError") (by rfl) z_ValueError (by decide +kernel) rfl))) (pe_xcall Z G__law_kinds (by decide) hz hf (by rfl) (pv 3)) (de_lst da_nil))) .nil))
  (dss_one (ds_ret (de_lst da_nil))))
theorem sc__law_fields : FnScope ["k", "one", "other", "e"] ["k", "one", "other"] (defScope (topS 29)) := ⟨rfl, rfl, rfl, by decide +kernel, rfl, by decide +kernel, by decide +kernel⟩
theorem kn__law_fields {f_ : Addr} {fd_ : FuncData} (F_ : Fun K "_law_fields" "_law_fields" (topS 29) f_ fd_) (h_ : mg "_law_fields" = some (.ref f_)) (G__law_raise : Kn P w K mg base C [⟨C_ArgumentError, ["reason"]⟩, ⟨C_CheckError, ["reason"]⟩, ⟨C_PaperError, ["reason"]⟩, ⟨C_TooMany, ["reason"]⟩, ⟨C_TextError, ["at"]⟩, ⟨C_LogError, ["number", "reason"]⟩, ⟨C_CommandError, ["line"]⟩] "_law_raise" 1 3 m__law_raise) (c_CommandError : mg "CommandError" = some (.ref C_CommandError)) (c_LogError : mg "LogError" = some (.ref C_LogError)) (c_TextError : mg "TextError" = some (.ref C_TextError)) (c_CheckError : mg "CheckError" = some (.ref C_CheckError)) (c_TooMany : mg "TooMany" = some (.ref C_TooMany)) (c_PaperError : mg "PaperError" = some (.ref C_PaperError)) (c_ArgumentError : mg "ArgumentError" = some (.ref C_ArgumentError)) (cc_CommandError : Catches K [⟨C_ArgumentError, ["reason"]⟩, ⟨C_CheckError, ["reason"]⟩, ⟨C_PaperError, ["reason"]⟩, ⟨C_TooMany, ["reason"]⟩, ⟨C_TextError, ["at"]⟩, ⟨C_LogError, ["number", "reason"]⟩, ⟨C_CommandError, ["line"]⟩] (.ref C_CommandError) [6]) (cc_LogError : Catches K [⟨C_ArgumentError, ["reason"]⟩, ⟨C_CheckError, ["reason"]⟩, ⟨C_PaperError, ["reason"]⟩, ⟨C_TooMany, ["reason"]⟩, ⟨C_TextError, ["at"]⟩, ⟨C_LogError, ["number", "reason"]⟩, ⟨C_CommandError, ["line"]⟩] (.ref C_LogError) [5]) (cc_TextError : Catches K [⟨C_ArgumentError, ["reason"]⟩, ⟨C_CheckError, ["reason"]⟩, ⟨C_PaperError, ["reason"]⟩, ⟨C_TooMany, ["reason"]⟩, ⟨C_TextError, ["at"]⟩, ⟨C_LogError, ["number", "reason"]⟩, ⟨C_CommandError, ["line"]⟩] (.ref C_TextError) [4]) (cc_CheckError : Catches K [⟨C_ArgumentError, ["reason"]⟩, ⟨C_CheckError, ["reason"]⟩, ⟨C_PaperError, ["reason"]⟩, ⟨C_TooMany, ["reason"]⟩, ⟨C_TextError, ["at"]⟩, ⟨C_LogError, ["number", "reason"]⟩, ⟨C_CommandError, ["line"]⟩] (.ref C_CheckError) [1]) (cc_TooMany : Catches K [⟨C_ArgumentError, ["reason"]⟩, ⟨C_CheckError, ["reason"]⟩, ⟨C_PaperError, ["reason"]⟩, ⟨C_TooMany, ["reason"]⟩, ⟨C_TextError, ["at"]⟩, ⟨C_LogError, ["number", "reason"]⟩, ⟨C_CommandError, ["line"]⟩] (.ref C_TooMany) [3]) (cc_PaperError : Catches K [⟨C_ArgumentError, ["reason"]⟩, ⟨C_CheckError, ["reason"]⟩, ⟨C_PaperError, ["reason"]⟩, ⟨C_TooMany, ["reason"]⟩, ⟨C_TextError, ["at"]⟩, ⟨C_LogError, ["number", "reason"]⟩, ⟨C_CommandError, ["line"]⟩] (.ref C_PaperError) [2]) (cc_ArgumentError : Catches K [⟨C_ArgumentError, ["reason"]⟩, ⟨C_CheckError, ["reason"]⟩, ⟨C_PaperError, ["reason"]⟩, ⟨C_TooMany, ["reason"]⟩, ⟨C_TextError, ["at"]⟩, ⟨C_LogError, ["number", "reason"]⟩, ⟨C_CommandError, ["line"]⟩] (.ref C_ArgumentError) [0]) (x_line : XatOk K [⟨C_ArgumentError, ["reason"]⟩, ⟨C_CheckError, ["reason"]⟩, ⟨C_PaperError, ["reason"]⟩, ⟨C_TooMany, ["reason"]⟩, ⟨C_TextError, ["at"]⟩, ⟨C_LogError, ["number", "reason"]⟩, ⟨C_CommandError, ["line"]⟩] "line") (x_reason : XatOk K [⟨C_ArgumentError, ["reason"]⟩, ⟨C_CheckError, ["reason"]⟩, ⟨C_PaperError, ["reason"]⟩, ⟨C_TooMany, ["reason"]⟩, ⟨C_TextError, ["at"]⟩, ⟨C_LogError, ["number", "reason"]⟩, ⟨C_CommandError, ["line"]⟩] "reason") (x_number : XatOk K [⟨C_ArgumentError, ["reason"]⟩, ⟨C_CheckError, ["reason"]⟩, ⟨C_PaperError, ["reason"]⟩, ⟨C_TooMany, ["reason"]⟩, ⟨C_TextError, ["at"]⟩, ⟨C_LogError, ["number", "reason"]⟩, ⟨C_CommandError, ["line"]⟩] "number") (x_at : XatOk K [⟨C_ArgumentError, ["reason"]⟩, ⟨C_CheckError, ["reason"]⟩, ⟨C_PaperError, ["reason"]⟩, ⟨C_TooMany, ["reason"]⟩, ⟨C_TextError, ["at"]⟩, ⟨C_LogError, ["number", "reason"]⟩, ⟨C_CommandError, ["line"]⟩] "at") : Kn P w K mg base C [⟨C_ArgumentError, ["reason"]⟩, ⟨C_CheckError, ["reason"]⟩, ⟨C_PaperError, ["reason"]⟩, ⟨C_TooMany, ["reason"]⟩, ⟨C_TextError, ["at"]⟩, ⟨C_LogError, ["number", "reason"]⟩, ⟨C_CommandError, ["line"]⟩] "_law_fields" 2 3 m__law_fields :=
  kn_of (ps := ["k", "one", "other"]) F_ h_ (F_.binds fun _ _ _ _ _ _ us hl => match us, hl with | [_, _, _], _ => rfl) sc__law_fields fun cdv A outer s H E B Z =>
  (dss_cons (ds_try Z rfl rfl (fun _ _ _ Z => (dss_one (ds_expr (de_call Z G__law_raise (by decide) (by rfl) (falen_cons (falen_cons (falen_cons falen_nil))) (da_cons (de_nm 0 (pv 0)) (da_cons (de_nm 1 (pv 1)) (da_cons (de_nm 2 (pv 2)) da_nil))))))) (.named (nsl := [0]) ⟨by rfl, by decide, .inl c_ArgumentError⟩ rfl (by rfl) (cc_ArgumentError) (fun _ _ _ _ _ _ _ hz hf => (de_tup (da_cons (pe_xat (X := Z.ctx) rfl rfl x_reason hz hf (pv 3)) da_nil))) (.named (nsl := [2]) ⟨by rfl, by decide, .inl c_PaperError⟩ rfl (by rfl) (cc_PaperError) (fun _ _ _ _ _ _ _ hz hf => (de_tup (da_cons (pe_xat (X := Z.ctx) rfl rfl x_reason hz hf (pv 3)) da_nil))) (.named (nsl := [3]) ⟨by rfl, by decide, .inl c_TooMany⟩ rfl (by rfl) (cc_TooMany) (fun _ _ _ _ _ _ _ hz hf => (de_tup (da_cons (pe_xat (X := Z.ctx) rfl rfl x_reason hz hf (pv 3)) da_nil))) (.named (nsl := [1]) ⟨by rfl, by decide, .inl c_CheckError⟩ rfl (by rfl) (cc_CheckError) (fun _ _ _ _ _ _ _ hz hf => (de_tup (da_cons (pe_xat (X := Z.ctx) rfl rfl x_reason hz hf (pv 3)) da_nil))) (.named (nsl := [4]) ⟨by rfl, by decide, .inl c_TextError⟩ rfl (by rfl) (cc_TextError) (fun _ _ _ _ _ _ _ hz hf => (de_tup (da_cons (pe_xat (X := Z.ctx) rfl rfl x_at hz hf (pv 3)) da_nil))) (.named (nsl := [5]) ⟨by rfl, by decide, .inl c_LogError⟩ rfl (by rfl) (cc_LogError) (fun _ _ _ _ _ _ _ hz hf => (de_tup (da_cons (pe_xat (X := Z.ctx) rfl rfl x_number hz hf (pv 3)) (da_cons (pe_xat (X := Z.ctx) rfl rfl x_reason hz hf (pv 3)) da_nil)))) (.named (nsl := [6]) ⟨by rfl, by decide, .inl c_CommandError⟩ rfl (by rfl) (cc_CommandError) (fun _ _ _ _ _ _ _ hz hf => (de_tup (da_cons (pe_xat (X := Z.ctx) rfl rfl x_line hz hf (pv 3)) da_nil))) .nil))))))))
  (dss_one (ds_ret de_non)))
theorem sc_law : FnScope ["script", "draws", "at", "values", "k", "one", "other", "j"] ["script"] (defScope (topS 30)) := ⟨rfl, rfl, rfl, by decide +kernel, rfl, by decide +kernel, by decide +kernel⟩
theorem fn_law {f_ : Addr} {fd_ : FuncData} (F_ : Fun K "law" "law" (topS 30) f_ fd_) (G__law_draws : ∀ C : Option Addr, Kn P w K mg base C [⟨C_ArgumentError, ["reason"]⟩, ⟨C_CheckError, ["reason"]⟩, ⟨C_PaperError, ["reason"]⟩, ⟨C_TooMany, ["reason"]⟩, ⟨C_TextError, ["at"]⟩, ⟨C_LogError, ["number", "reason"]⟩, ⟨C_CommandError, ["line"]⟩] "_law_draws" 1 1 m__law_draws) (G__law_limits_right : ∀ C : Option Addr, Kn P w K mg base C [⟨C_ArgumentError, ["reason"]⟩, ⟨C_CheckError, ["reason"]⟩, ⟨C_PaperError, ["reason"]⟩, ⟨C_TooMany, ["reason"]⟩, ⟨C_TextError, ["at"]⟩, ⟨C_LogError, ["number", "reason"]⟩, ⟨C_CommandError, ["line"]⟩] "_law_limits_right" 1 0 m__law_limits_right) (G__law_one : ∀ C : Option Addr, Kn P w K mg base C [⟨C_ArgumentError, ["reason"]⟩, ⟨C_CheckError, ["reason"]⟩, ⟨C_PaperError, ["reason"]⟩, ⟨C_TooMany, ["reason"]⟩, ⟨C_TextError, ["at"]⟩, ⟨C_LogError, ["number", "reason"]⟩, ⟨C_CommandError, ["line"]⟩] "_law_one" 3 3 m__law_one) (G__law_caught : ∀ C : Option Addr, Kn P w K mg base C [⟨C_ArgumentError, ["reason"]⟩, ⟨C_CheckError, ["reason"]⟩, ⟨C_PaperError, ["reason"]⟩, ⟨C_TooMany, ["reason"]⟩, ⟨C_TextError, ["at"]⟩, ⟨C_LogError, ["number", "reason"]⟩, ⟨C_CommandError, ["line"]⟩] "_law_caught" 2 3 m__law_caught) (G__law_fields : ∀ C : Option Addr, Kn P w K mg base C [⟨C_ArgumentError, ["reason"]⟩, ⟨C_CheckError, ["reason"]⟩, ⟨C_PaperError, ["reason"]⟩, ⟨C_TooMany, ["reason"]⟩, ⟨C_TextError, ["at"]⟩, ⟨C_LogError, ["number", "reason"]⟩, ⟨C_CommandError, ["line"]⟩] "_law_fields" 2 3 m__law_fields) (z_range : mg "range" = none) (z_repr : mg "repr" = none) : FnG P w K mg base 4 f_ fd_ ["script"] (spD K none [⟨C_ArgumentError, ["reason"]⟩, ⟨C_CheckError, ["reason"]⟩, ⟨C_PaperError, ["reason"]⟩, ⟨C_TooMany, ["reason"]⟩, ⟨C_TextError, ["at"]⟩, ⟨C_LogError, ["number", "reason"]⟩, ⟨C_CommandError, ["line"]⟩] 1 m_law) :=
  fng_of (ps := ["script"]) F_ sc_law fun cdv A outer s H E B Z =>
  (dss_cons (ds_set (i := 1) Z.nd rfl (by first | exact .inl rfl | exact .inr rfl) (de_call Z (G__law_draws _) (by decide) (by rfl) (falen_sc falen_nil) (da_sc 0 (pv 0) da_nil)))
  (dss_newcell (i := 2) Z rfl (by first | exact .inl rfl | exact .inr rfl) (fun _ _ _ Z => (dss_cons (ds_if (dt_not (dt_tr Z.hk (de_call0 Z (G__law_limits_right _) (by decide) (by rfl)))) (dss_one (ds_ret de_bl))
  dss_nil)
  (dss_cons (ds_set (i := 3) Z.nd rfl (by first | exact .inl rfl | exact .inr rfl) (de_lst (da_cons de_str (da_cons de_str (da_cons de_str (da_cons de_int (da_cons de_int (da_cons (de_un vun_neg de_int) (da_cons de_non (da_cons (de_tup (da_cons de_str (da_cons de_int da_nil))) (da_cons de_str (da_cons de_bl da_nil))))))))))))
  (dss_cons (ds_for (vs := [4]) Z (di_rng1 (by rfl) z_range (da_cons de_int da_nil)) (dg_nm 4 (pg_name Z.nd rfl (by first | exact .inl rfl | exact .inr rfl)) (by decide))
  (dss_cons (ds_par (i := 5) (j := 6) Z.calm Z.nd rfl rfl (by decide) (by rfl) (by rfl) (de_call Z (G__law_one _) (by decide) (by rfl) (falen_cons (falen_cons (falen_cel falen_nil))) (da_cons (de_nm 3 (pv 3)) (da_cons (de_nm 1 (pv 1)) (da_cel 2 (pv 2) da_nil)))) (de_call Z (G__law_one _) (by decide) (by rfl) (falen_cons (falen_cons (falen_cel falen_nil))) (da_cons (de_nm 3 (pv 3)) (da_cons (de_nm 1 (pv 1)) (da_cel 2 (pv 2) da_nil)))) (by rfl))
  (dss_cons (ds_if (dt_cmp (vop_ne Z.h64) (nomark _) (de_call Z (G__law_caught _) (by decide) (by rfl) (falen_cons (falen_cons (falen_cons falen_nil))) (da_cons (de_nm 4 (pv 4)) (da_cons (de_nm 5 (pv 5)) (da_cons (de_nm 6 (pv 6)) da_nil)))) (de_fz (df_lc (own := [("j", 7)]) Z (di_rng1 (by rfl) z_range (da_cons de_int da_nil)) (blkOk_by (by rfl)) (fun _ _ _ _ _ _ _ Z => (dg_nm 7 (pg_name Z.nd rfl (by first | exact .inl rfl | exact .inr rfl)) (by decide))) (fun _ _ _ _ _ _ _ Z => dts_nil) (fun _ _ _ _ _ _ _ Z => (de_cmp (vop_eq Z.h64) (nomark _) (de_nm 7 (pv 7)) (de_nm 4 (pv 4))))))) (dss_one (ds_ret de_bl))
  dss_nil)
  (dss_one (ds_if (dt_cmp (vop_ne Z.h64) (nomark _) (de_bi (vcl_repr Z.gd Z.hu) (by rfl) z_repr (by decide +kernel) (da_cons (de_call Z (G__law_fields _) (by decide) (by rfl) (falen_cons (falen_cons (falen_cons falen_nil))) (da_cons (de_nm 4 (pv 4)) (da_cons (de_nm 5 (pv 5)) (da_cons (de_nm 6 (pv 6)) da_nil)))) da_nil)) (de_bi (vcl_repr Z.gd Z.hu) (by rfl) z_repr (by decide +kernel) (da_cons (de_if (dt_cmp (vop_eq Z.h64) (nomark _) (de_nm 4 (pv 4)) de_int) (de_tup (da_cons (de_nm 5 (pv 5)) (da_cons (de_nm 6 (pv 6)) da_nil))) (de_tup (da_cons (de_nm 5 (pv 5)) da_nil))) da_nil))) (dss_one (ds_ret de_bl))
  dss_nil)))))
  (dss_one (ds_ret de_bl))))))))
end
end K00

set_option Elab.async false
set_option linter.all false
set_option maxRecDepth 100000
set_option maxHeartbeats 4000000
namespace K00
open PySem PySem.Spec PyProof.Rows L2 L2.DL
theorem all_mk {w : World} {K : PySem.W.Frag} {h : Heap} {mg : Str → Option Value} {fa : Addr} (X : K.In h) (G : h.Ns mainGlobals mg) (hfa : mg "law" = some (.ref fa))
    {f21 : Addr} {od21 an21 : Option Addr} {sl21 : Array (Option Value)} {oc21 kV21 dc21 pm21 cd21 ct21 : Value}
    {f22 : Addr} {od22 an22 : Option Addr} {sl22 : Array (Option Value)} {oc22 kV22 dc22 pm22 cd22 ct22 : Value}
    {f23 : Addr} {od23 an23 : Option Addr} {sl23 : Array (Option Value)} {oc23 kV23 dc23 pm23 cd23 ct23 : Value}
    {f24 : Addr} {od24 an24 : Option Addr} {sl24 : Array (Option Value)} {oc24 kV24 dc24 pm24 cd24 ct24 : Value}
    {f25 : Addr} {od25 an25 : Option Addr} {sl25 : Array (Option Value)} {oc25 kV25 dc25 pm25 cd25 ct25 : Value}
    {f26 : Addr} {od26 an26 : Option Addr} {sl26 : Array (Option Value)} {oc26 kV26 dc26 pm26 cd26 ct26 : Value}
    {f27 : Addr} {od27 an27 : Option Addr} {sl27 : Array (Option Value)} {oc27 kV27 dc27 pm27 cd27 ct27 : Value}
    {f28 : Addr} {od28 an28 : Option Addr} {sl28 : Array (Option Value)} {oc28 kV28 dc28 pm28 cd28 ct28 : Value}
    {f29 : Addr} {od29 an29 : Option Addr} {sl29 : Array (Option Value)} {oc29 kV29 dc29 pm29 cd29 ct29 : Value}
    {f30 : Addr} {od30 an30 : Option Addr} {sl30 : Array (Option Value)} {oc30 kV30 dc30 pm30 cd30 ct30 : Value}
    {y_MAX_LINES : Tok}
    {y_MAX_TRIED : Tok}
    {y_MAX_TEXT : Tok}
    {y_MAX_TERMS : Tok}
    {y_MAX_ROWS : Tok}
    {y_MAX_SETTINGS : Tok}
    {y_MAX_COLUMNS : Tok}
    {y_MAX_UNITS : Tok}
    {y_MAX_NAME : Tok}
    {y_MAX_PART : Tok}
    {C_ArgumentError : Addr}
    {C_PaperError : Addr}
    {C_TooMany : Addr}
    {C_CheckError : Addr}
    {C_TextError : Addr}
    {C_LogError : Addr}
    {C_CommandError : Addr}
    {C_AwryError : Addr}
    {I_ArgumentError cc_ArgumentError D_ArgumentError cda_ArgumentError : Addr} {nm_ArgumentError q_ArgumentError : Str} {N_ArgumentError : Addr} {bs_ArgumentError bm_ArgumentError sub_ArgumentError : List Value} {sn_ArgumentError : List Str} {ab_ArgumentError : Bool} {col_ArgumentError : Option Bool} {dd_ArgumentError : Option Addr} {h0_ArgumentError h1_ArgumentError h2_ArgumentError h3_ArgumentError h5_ArgumentError : Option Value}
    {oc_ArgumentError doc_ArgumentError pm_ArgumentError ct_ArgumentError ccl_ArgumentError cl_ArgumentError : Value} {od_ArgumentError an_ArgumentError cdd_ArgumentError cld_ArgumentError : Option Addr} {qual_ArgumentError file_ArgumentError : Str} {osl_ArgumentError ccs_ArgumentError csl_ArgumentError : Array (Option Value)} {vs_ArgumentError : Array Value} {tf_ArgumentError : Tok} {cdD_ArgumentError : ClassData} {p1_ArgumentError p2_ArgumentError r0_ArgumentError r1_ArgumentError r2_ArgumentError r3_ArgumentError r4_ArgumentError r5_ArgumentError q1_ArgumentError q2_ArgumentError q3_ArgumentError q4_ArgumentError : Pos}
    {I_CheckError cc_CheckError D_CheckError cda_CheckError : Addr} {nm_CheckError q_CheckError : Str} {N_CheckError : Addr} {bs_CheckError bm_CheckError sub_CheckError : List Value} {sn_CheckError : List Str} {ab_CheckError : Bool} {col_CheckError : Option Bool} {dd_CheckError : Option Addr} {h0_CheckError h1_CheckError h2_CheckError h3_CheckError h5_CheckError : Option Value}
    {oc_CheckError doc_CheckError pm_CheckError ct_CheckError ccl_CheckError cl_CheckError : Value} {od_CheckError an_CheckError cdd_CheckError cld_CheckError : Option Addr} {qual_CheckError file_CheckError : Str} {osl_CheckError ccs_CheckError csl_CheckError : Array (Option Value)} {vs_CheckError : Array Value} {tf_CheckError : Tok} {cdD_CheckError : ClassData} {p1_CheckError p2_CheckError r0_CheckError r1_CheckError r2_CheckError r3_CheckError r4_CheckError r5_CheckError q1_CheckError q2_CheckError q3_CheckError q4_CheckError : Pos}
    {I_PaperError cc_PaperError D_PaperError cda_PaperError : Addr} {nm_PaperError q_PaperError : Str} {N_PaperError : Addr} {bs_PaperError bm_PaperError sub_PaperError : List Value} {sn_PaperError : List Str} {ab_PaperError : Bool} {col_PaperError : Option Bool} {dd_PaperError : Option Addr} {h0_PaperError h1_PaperError h2_PaperError h3_PaperError h5_PaperError : Option Value}
    {oc_PaperError doc_PaperError pm_PaperError ct_PaperError ccl_PaperError cl_PaperError : Value} {od_PaperError an_PaperError cdd_PaperError cld_PaperError : Option Addr} {qual_PaperError file_PaperError : Str} {osl_PaperError ccs_PaperError csl_PaperError : Array (Option Value)} {vs_PaperError : Array Value} {tf_PaperError : Tok} {cdD_PaperError : ClassData} {p1_PaperError p2_PaperError r0_PaperError r1_PaperError r2_PaperError r3_PaperError r4_PaperError r5_PaperError q1_PaperError q2_PaperError q3_PaperError q4_PaperError : Pos}
    {I_TooMany cc_TooMany D_TooMany cda_TooMany : Addr} {nm_TooMany q_TooMany : Str} {N_TooMany : Addr} {bs_TooMany bm_TooMany sub_TooMany : List Value} {sn_TooMany : List Str} {ab_TooMany : Bool} {col_TooMany : Option Bool} {dd_TooMany : Option Addr} {h0_TooMany h1_TooMany h2_TooMany h3_TooMany h5_TooMany : Option Value}
    {oc_TooMany doc_TooMany pm_TooMany ct_TooMany ccl_TooMany cl_TooMany : Value} {od_TooMany an_TooMany cdd_TooMany cld_TooMany : Option Addr} {qual_TooMany file_TooMany : Str} {osl_TooMany ccs_TooMany csl_TooMany : Array (Option Value)} {vs_TooMany : Array Value} {tf_TooMany : Tok} {cdD_TooMany : ClassData} {p1_TooMany p2_TooMany r0_TooMany r1_TooMany r2_TooMany r3_TooMany r4_TooMany r5_TooMany q1_TooMany q2_TooMany q3_TooMany q4_TooMany : Pos}
    {I_TextError cc_TextError D_TextError cda_TextError : Addr} {nm_TextError q_TextError : Str} {N_TextError : Addr} {bs_TextError bm_TextError sub_TextError : List Value} {sn_TextError : List Str} {ab_TextError : Bool} {col_TextError : Option Bool} {dd_TextError : Option Addr} {h0_TextError h1_TextError h2_TextError h3_TextError h5_TextError : Option Value}
    {oc_TextError doc_TextError pm_TextError ct_TextError ccl_TextError cl_TextError : Value} {od_TextError an_TextError cdd_TextError cld_TextError : Option Addr} {qual_TextError file_TextError : Str} {osl_TextError ccs_TextError csl_TextError : Array (Option Value)} {vs_TextError : Array Value} {tf_TextError : Tok} {cdD_TextError : ClassData} {p1_TextError p2_TextError r0_TextError r1_TextError r2_TextError r3_TextError r4_TextError r5_TextError q1_TextError q2_TextError q3_TextError q4_TextError : Pos}
    {I_LogError cc_LogError D_LogError cda_LogError : Addr} {nm_LogError q_LogError : Str} {N_LogError : Addr} {bs_LogError bm_LogError sub_LogError : List Value} {sn_LogError : List Str} {ab_LogError : Bool} {col_LogError : Option Bool} {dd_LogError : Option Addr} {h0_LogError h1_LogError h2_LogError h3_LogError h5_LogError : Option Value}
    {oc_LogError doc_LogError pm_LogError ct_LogError ccl_LogError cl_LogError : Value} {od_LogError an_LogError cdd_LogError cld_LogError : Option Addr} {qual_LogError file_LogError : Str} {osl_LogError ccs_LogError csl_LogError : Array (Option Value)} {vs_LogError : Array Value} {tf_LogError : Tok} {cdD_LogError : ClassData} {p1_LogError p2_LogError r0_LogError r1_LogError r2_LogError r3_LogError r4_LogError r5_LogError q1_LogError q2_LogError q3_LogError q4_LogError : Pos}
    {p3_LogError x3_LogError u1_LogError u2_LogError u3_LogError u4_LogError : Pos}
    {I_CommandError cc_CommandError D_CommandError cda_CommandError : Addr} {nm_CommandError q_CommandError : Str} {N_CommandError : Addr} {bs_CommandError bm_CommandError sub_CommandError : List Value} {sn_CommandError : List Str} {ab_CommandError : Bool} {col_CommandError : Option Bool} {dd_CommandError : Option Addr} {h0_CommandError h1_CommandError h2_CommandError h3_CommandError h5_CommandError : Option Value}
    {oc_CommandError doc_CommandError pm_CommandError ct_CommandError ccl_CommandError cl_CommandError : Value} {od_CommandError an_CommandError cdd_CommandError cld_CommandError : Option Addr} {qual_CommandError file_CommandError : Str} {osl_CommandError ccs_CommandError csl_CommandError : Array (Option Value)} {vs_CommandError : Array Value} {tf_CommandError : Tok} {cdD_CommandError : ClassData} {p1_CommandError p2_CommandError r0_CommandError r1_CommandError r2_CommandError r3_CommandError r4_CommandError r5_CommandError q1_CommandError q2_CommandError q3_CommandError q4_CommandError : Pos}
    {cq_CheckError : ClassData}
    {cx_ArgumentError : ClassData}
    {cx_CheckError : ClassData}
    {cx_PaperError : ClassData}
    {cx_TooMany : ClassData}
    {cx_TextError : ClassData}
    {cx_LogError : ClassData}
    {cx_CommandError : ClassData}
    {cq_TooMany : ClassData}
    {cq_PaperError : ClassData}
    {cq_ArgumentError : ClassData}
    {cq_CommandError : ClassData}
    {cq_LogError : ClassData}
    {cq_TextError : ClassData}
    (a21 : PySem.W.nsIn K mainGlobals "_law_draws" = some (some (.ref f21)))
    (l21 : K.lookup f21 = some ⟨oc21, od21, .func (PySem.W.fnOf "_law_draws" "_law_draws" (defArgs (topS 21)) (defBody (topS 21)) (defScope (topS 21)) .none kV21 dc21 pm21 an21 cd21 ct21), sl21⟩)
    (c21 : PySem.W.codeIn K cd21 "_law_draws" = true)
    (k21 : PySem.W.keepIn K (.ref f21) = true)
    (a22 : PySem.W.nsIn K mainGlobals "_law_more" = some (some (.ref f22)))
    (l22 : K.lookup f22 = some ⟨oc22, od22, .func (PySem.W.fnOf "_law_more" "_law_more" (defArgs (topS 22)) (defBody (topS 22)) (defScope (topS 22)) .none kV22 dc22 pm22 an22 cd22 ct22), sl22⟩)
    (c22 : PySem.W.codeIn K cd22 "_law_more" = true)
    (k22 : PySem.W.keepIn K (.ref f22) = true)
    (a23 : PySem.W.nsIn K mainGlobals "_law_take" = some (some (.ref f23)))
    (l23 : K.lookup f23 = some ⟨oc23, od23, .func (PySem.W.fnOf "_law_take" "_law_take" (defArgs (topS 23)) (defBody (topS 23)) (defScope (topS 23)) .none kV23 dc23 pm23 an23 cd23 ct23), sl23⟩)
    (c23 : PySem.W.codeIn K cd23 "_law_take" = true)
    (k23 : PySem.W.keepIn K (.ref f23) = true)
    (a24 : PySem.W.nsIn K mainGlobals "_law_one" = some (some (.ref f24)))
    (l24 : K.lookup f24 = some ⟨oc24, od24, .func (PySem.W.fnOf "_law_one" "_law_one" (defArgs (topS 24)) (defBody (topS 24)) (defScope (topS 24)) .none kV24 dc24 pm24 an24 cd24 ct24), sl24⟩)
    (c24 : PySem.W.codeIn K cd24 "_law_one" = true)
    (k24 : PySem.W.keepIn K (.ref f24) = true)
    (a25 : PySem.W.nsIn K mainGlobals "_law_limits_right" = some (some (.ref f25)))
    (l25 : K.lookup f25 = some ⟨oc25, od25, .func (PySem.W.fnOf "_law_limits_right" "_law_limits_right" (defArgs (topS 25)) (defBody (topS 25)) (defScope (topS 25)) .none kV25 dc25 pm25 an25 cd25 ct25), sl25⟩)
    (c25 : PySem.W.codeIn K cd25 "_law_limits_right" = true)
    (k25 : PySem.W.keepIn K (.ref f25) = true)
    (a26 : PySem.W.nsIn K mainGlobals "_law_raise" = some (some (.ref f26)))
    (l26 : K.lookup f26 = some ⟨oc26, od26, .func (PySem.W.fnOf "_law_raise" "_law_raise" (defArgs (topS 26)) (defBody (topS 26)) (defScope (topS 26)) .none kV26 dc26 pm26 an26 cd26 ct26), sl26⟩)
    (c26 : PySem.W.codeIn K cd26 "_law_raise" = true)
    (k26 : PySem.W.keepIn K (.ref f26) = true)
    (a27 : PySem.W.nsIn K mainGlobals "_law_kinds" = some (some (.ref f27)))
    (l27 : K.lookup f27 = some ⟨oc27, od27, .func (PySem.W.fnOf "_law_kinds" "_law_kinds" (defArgs (topS 27)) (defBody (topS 27)) (defScope (topS 27)) .none kV27 dc27 pm27 an27 cd27 ct27), sl27⟩)
    (c27 : PySem.W.codeIn K cd27 "_law_kinds" = true)
    (k27 : PySem.W.keepIn K (.ref f27) = true)
    (a28 : PySem.W.nsIn K mainGlobals "_law_caught" = some (some (.ref f28)))
    (l28 : K.lookup f28 = some ⟨oc28, od28, .func (PySem.W.fnOf "_law_caught" "_law_caught" (defArgs (topS 28)) (defBody (topS 28)) (defScope (topS 28)) .none kV28 dc28 pm28 an28 cd28 ct28), sl28⟩)
    (c28 : PySem.W.codeIn K cd28 "_law_caught" = true)
    (k28 : PySem.W.keepIn K (.ref f28) = true)
    (a29 : PySem.W.nsIn K mainGlobals "_law_fields" = some (some (.ref f29)))
    (l29 : K.lookup f29 = some ⟨oc29, od29, .func (PySem.W.fnOf "_law_fields" "_law_fields" (defArgs (topS 29)) (defBody (topS 29)) (defScope (topS 29)) .none kV29 dc29 pm29 an29 cd29 ct29), sl29⟩)
    (c29 : PySem.W.codeIn K cd29 "_law_fields" = true)
    (k29 : PySem.W.keepIn K (.ref f29) = true)
    (a30 : PySem.W.nsIn K mainGlobals "law" = some (some (.ref f30)))
    (l30 : K.lookup f30 = some ⟨oc30, od30, .func (PySem.W.fnOf "law" "law" (defArgs (topS 30)) (defBody (topS 30)) (defScope (topS 30)) .none kV30 dc30 pm30 an30 cd30 ct30), sl30⟩)
    (c30 : PySem.W.codeIn K cd30 "law" = true)
    (k30 : PySem.W.keepIn K (.ref f30) = true)
    (n_abs : PySem.W.nsIn K mainGlobals "abs" = some none)
    (n_range : PySem.W.nsIn K mainGlobals "range" = some none)
    (n_int : PySem.W.nsIn K mainGlobals "int" = some none)
    (n_len : PySem.W.nsIn K mainGlobals "len" = some none)
    (n_repr : PySem.W.nsIn K mainGlobals "repr" = some none)
    (n_isinstance : PySem.W.nsIn K mainGlobals "isinstance" = some none)
    (n_ValueError : PySem.W.nsIn K mainGlobals "ValueError" = some none)
    (a_MAX_LINES : PySem.W.nsIn K mainGlobals "MAX_LINES" = some (some (.int 200 y_MAX_LINES)))
    (a_MAX_TRIED : PySem.W.nsIn K mainGlobals "MAX_TRIED" = some (some (.int 4000 y_MAX_TRIED)))
    (a_MAX_TEXT : PySem.W.nsIn K mainGlobals "MAX_TEXT" = some (some (.int 8000 y_MAX_TEXT)))
    (a_MAX_TERMS : PySem.W.nsIn K mainGlobals "MAX_TERMS" = some (some (.int 40 y_MAX_TERMS)))
    (a_MAX_ROWS : PySem.W.nsIn K mainGlobals "MAX_ROWS" = some (some (.int 120 y_MAX_ROWS)))
    (a_MAX_SETTINGS : PySem.W.nsIn K mainGlobals "MAX_SETTINGS" = some (some (.int 60 y_MAX_SETTINGS)))
    (a_MAX_COLUMNS : PySem.W.nsIn K mainGlobals "MAX_COLUMNS" = some (some (.int 12 y_MAX_COLUMNS)))
    (a_MAX_UNITS : PySem.W.nsIn K mainGlobals "MAX_UNITS" = some (some (.int 40 y_MAX_UNITS)))
    (a_MAX_NAME : PySem.W.nsIn K mainGlobals "MAX_NAME" = some (some (.int 16 y_MAX_NAME)))
    (a_MAX_PART : PySem.W.nsIn K mainGlobals "MAX_PART" = some (some (.int 1000000 y_MAX_PART)))
    (tp : PySem.W.nsIn K PySem.cStatics "thirdparty.any" = some none)
    (n_super : PySem.W.nsIn K mainGlobals "super" = some none)
    (tops : ((PySem.Challenge.pw_leastawry_k00_errors_and_limits).main.scope.names.lookup ("super" : Str)).isSome = false)
    (g_ArgumentError : PySem.W.nsIn K mainGlobals "ArgumentError" = some (some (.ref C_ArgumentError)))
    (g_PaperError : PySem.W.nsIn K mainGlobals "PaperError" = some (some (.ref C_PaperError)))
    (g_TooMany : PySem.W.nsIn K mainGlobals "TooMany" = some (some (.ref C_TooMany)))
    (g_CheckError : PySem.W.nsIn K mainGlobals "CheckError" = some (some (.ref C_CheckError)))
    (g_TextError : PySem.W.nsIn K mainGlobals "TextError" = some (some (.ref C_TextError)))
    (g_LogError : PySem.W.nsIn K mainGlobals "LogError" = some (some (.ref C_LogError)))
    (g_CommandError : PySem.W.nsIn K mainGlobals "CommandError" = some (some (.ref C_CommandError)))
    (g_AwryError : PySem.W.nsIn K mainGlobals "AwryError" = some (some (.ref C_AwryError)))
    (ex_ArgumentError : PySem.W.subIn K (.ref C_ArgumentError) (.type "BaseException") = some true)
    (hd_ArgumentError : PySem.W.hasDictIn K C_ArgumentError = true)
    (ty_ArgumentError : PySem.W.typeIn K (.ref C_ArgumentError) = some (.type "type"))
    (ex_PaperError : PySem.W.subIn K (.ref C_PaperError) (.type "BaseException") = some true)
    (hd_PaperError : PySem.W.hasDictIn K C_PaperError = true)
    (ty_PaperError : PySem.W.typeIn K (.ref C_PaperError) = some (.type "type"))
    (ex_TooMany : PySem.W.subIn K (.ref C_TooMany) (.type "BaseException") = some true)
    (hd_TooMany : PySem.W.hasDictIn K C_TooMany = true)
    (ty_TooMany : PySem.W.typeIn K (.ref C_TooMany) = some (.type "type"))
    (ex_CheckError : PySem.W.subIn K (.ref C_CheckError) (.type "BaseException") = some true)
    (hd_CheckError : PySem.W.hasDictIn K C_CheckError = true)
    (ty_CheckError : PySem.W.typeIn K (.ref C_CheckError) = some (.type "type"))
    (ex_TextError : PySem.W.subIn K (.ref C_TextError) (.type "BaseException") = some true)
    (hd_TextError : PySem.W.hasDictIn K C_TextError = true)
    (ty_TextError : PySem.W.typeIn K (.ref C_TextError) = some (.type "type"))
    (ex_LogError : PySem.W.subIn K (.ref C_LogError) (.type "BaseException") = some true)
    (hd_LogError : PySem.W.hasDictIn K C_LogError = true)
    (ty_LogError : PySem.W.typeIn K (.ref C_LogError) = some (.type "type"))
    (ex_CommandError : PySem.W.subIn K (.ref C_CommandError) (.type "BaseException") = some true)
    (hd_CommandError : PySem.W.hasDictIn K C_CommandError = true)
    (ty_CommandError : PySem.W.typeIn K (.ref C_CommandError) = some (.type "type"))
    (ex_AwryError : PySem.W.subIn K (.ref C_AwryError) (.type "BaseException") = some true)
    (hd_AwryError : PySem.W.hasDictIn K C_AwryError = true)
    (ty_AwryError : PySem.W.typeIn K (.ref C_AwryError) = some (.type "type"))
    (kl_ArgumentError : K.lookup C_ArgumentError = some (PySem.excClassObj nm_ArgumentError q_ArgumentError C_ArgumentError N_ArgumentError bs_ArgumentError bm_ArgumentError true sn_ArgumentError sub_ArgumentError ab_ArgumentError col_ArgumentError dd_ArgumentError h0_ArgumentError h1_ArgumentError h2_ArgumentError h3_ArgumentError h5_ArgumentError "ValueError.__new__"))
    (rf_ArgumentError : PySem.HandSPX.refsVE bm_ArgumentError = true)
    (sa_ArgumentError : PySem.W.findIn K (.ref C_ArgumentError) "__setattr__" = some (some (.builtin "object.__setattr__")))
    (ga_ArgumentError : PySem.W.findIn K (.ref C_ArgumentError) "__getattribute__" = some (some (.builtin "BaseException.__getattribute__")))
    (gg_ArgumentError : PySem.W.findIn K (.ref C_ArgumentError) "__getattr__" = some none)
    (no_ArgumentError : PySem.W.findIn K (.ref C_ArgumentError) "reason" = some none)
    (in_ArgumentError : PySem.W.findIn K (.ref C_ArgumentError) "__init__" = some (some (.ref I_ArgumentError)))
    (tc_ArgumentError : PySem.W.typeIn K (.ref I_ArgumentError) = some (.type "function"))
    (kc_ArgumentError : PySem.W.keepIn K (.ref C_ArgumentError) = true)
    (ve_ArgumentError : PySem.W.subIn K (.ref C_ArgumentError) (.type "ValueError") = some true)
    (fn_ArgumentError : K.lookup I_ArgumentError = some ⟨oc_ArgumentError, od_ArgumentError, .func (PySem.W.fnX "__init__" qual_ArgumentError (PySem.AwX.iA "reason" p1_ArgumentError p2_ArgumentError) (PySem.AwX.iB "reason" r0_ArgumentError r1_ArgumentError r2_ArgumentError r3_ArgumentError r4_ArgumentError r5_ArgumentError q1_ArgumentError q2_ArgumentError q3_ArgumentError q4_ArgumentError) (PySem.AwX.iS "reason") [("__class__", cc_ArgumentError)] .none .none doc_ArgumentError pm_ArgumentError an_ArgumentError (.ref cda_ArgumentError) ct_ArgumentError), osl_ArgumentError⟩)
    (co_ArgumentError : PySem.W.codeIn K (.ref cda_ArgumentError) qual_ArgumentError = true)
    (cd_ArgumentError : K.lookup cda_ArgumentError = some ⟨ccl_ArgumentError, cdd_ArgumentError, .fields vs_ArgumentError, ccs_ArgumentError⟩)
    (v2_ArgumentError : vs_ArgumentError[2]? = some (.str file_ArgumentError tf_ArgumentError))
    (fl_ArgumentError : ((PySem.Challenge.pw_leastawry_k00_errors_and_limits.main.file : Str) == file_ArgumentError) = true)
    (ce_ArgumentError : K.lookup cc_ArgumentError = some ⟨cl_ArgumentError, cld_ArgumentError, .cell (some (.ref D_ArgumentError)), csl_ArgumentError⟩)
    (cD_ArgumentError : PySem.W.clsIn K D_ArgumentError = some cdD_ArgumentError)
    (mr_ArgumentError : PySem.W.mroIn K C_ArgumentError (.ref D_ArgumentError) = some true)
    (su_ArgumentError : PySem.W.ks_superIn K C_ArgumentError D_ArgumentError "__init__" = some (some (.builtin "ValueError.__init__")))
    (li_ArgumentError : (r2_ArgumentError.endLine == r4_ArgumentError.line) = true)
    (kl_CheckError : K.lookup C_CheckError = some (PySem.excClassObj nm_CheckError q_CheckError C_CheckError N_CheckError bs_CheckError bm_CheckError true sn_CheckError sub_CheckError ab_CheckError col_CheckError dd_CheckError h0_CheckError h1_CheckError h2_CheckError h3_CheckError h5_CheckError "ValueError.__new__"))
    (rf_CheckError : PySem.HandSPX.refsVE bm_CheckError = true)
    (sa_CheckError : PySem.W.findIn K (.ref C_CheckError) "__setattr__" = some (some (.builtin "object.__setattr__")))
    (ga_CheckError : PySem.W.findIn K (.ref C_CheckError) "__getattribute__" = some (some (.builtin "BaseException.__getattribute__")))
    (gg_CheckError : PySem.W.findIn K (.ref C_CheckError) "__getattr__" = some none)
    (no_CheckError : PySem.W.findIn K (.ref C_CheckError) "reason" = some none)
    (in_CheckError : PySem.W.findIn K (.ref C_CheckError) "__init__" = some (some (.ref I_CheckError)))
    (tc_CheckError : PySem.W.typeIn K (.ref I_CheckError) = some (.type "function"))
    (kc_CheckError : PySem.W.keepIn K (.ref C_CheckError) = true)
    (ve_CheckError : PySem.W.subIn K (.ref C_CheckError) (.type "ValueError") = some true)
    (fn_CheckError : K.lookup I_CheckError = some ⟨oc_CheckError, od_CheckError, .func (PySem.W.fnX "__init__" qual_CheckError (PySem.AwX.iA "reason" p1_CheckError p2_CheckError) (PySem.AwX.iB "reason" r0_CheckError r1_CheckError r2_CheckError r3_CheckError r4_CheckError r5_CheckError q1_CheckError q2_CheckError q3_CheckError q4_CheckError) (PySem.AwX.iS "reason") [("__class__", cc_CheckError)] .none .none doc_CheckError pm_CheckError an_CheckError (.ref cda_CheckError) ct_CheckError), osl_CheckError⟩)
    (co_CheckError : PySem.W.codeIn K (.ref cda_CheckError) qual_CheckError = true)
    (cd_CheckError : K.lookup cda_CheckError = some ⟨ccl_CheckError, cdd_CheckError, .fields vs_CheckError, ccs_CheckError⟩)
    (v2_CheckError : vs_CheckError[2]? = some (.str file_CheckError tf_CheckError))
    (fl_CheckError : ((PySem.Challenge.pw_leastawry_k00_errors_and_limits.main.file : Str) == file_CheckError) = true)
    (ce_CheckError : K.lookup cc_CheckError = some ⟨cl_CheckError, cld_CheckError, .cell (some (.ref D_CheckError)), csl_CheckError⟩)
    (cD_CheckError : PySem.W.clsIn K D_CheckError = some cdD_CheckError)
    (mr_CheckError : PySem.W.mroIn K C_CheckError (.ref D_CheckError) = some true)
    (su_CheckError : PySem.W.ks_superIn K C_CheckError D_CheckError "__init__" = some (some (.builtin "ValueError.__init__")))
    (li_CheckError : (r2_CheckError.endLine == r4_CheckError.line) = true)
    (kl_PaperError : K.lookup C_PaperError = some (PySem.excClassObj nm_PaperError q_PaperError C_PaperError N_PaperError bs_PaperError bm_PaperError true sn_PaperError sub_PaperError ab_PaperError col_PaperError dd_PaperError h0_PaperError h1_PaperError h2_PaperError h3_PaperError h5_PaperError "ValueError.__new__"))
    (rf_PaperError : PySem.HandSPX.refsVE bm_PaperError = true)
    (sa_PaperError : PySem.W.findIn K (.ref C_PaperError) "__setattr__" = some (some (.builtin "object.__setattr__")))
    (ga_PaperError : PySem.W.findIn K (.ref C_PaperError) "__getattribute__" = some (some (.builtin "BaseException.__getattribute__")))
    (gg_PaperError : PySem.W.findIn K (.ref C_PaperError) "__getattr__" = some none)
    (no_PaperError : PySem.W.findIn K (.ref C_PaperError) "reason" = some none)
    (in_PaperError : PySem.W.findIn K (.ref C_PaperError) "__init__" = some (some (.ref I_PaperError)))
    (tc_PaperError : PySem.W.typeIn K (.ref I_PaperError) = some (.type "function"))
    (kc_PaperError : PySem.W.keepIn K (.ref C_PaperError) = true)
    (ve_PaperError : PySem.W.subIn K (.ref C_PaperError) (.type "ValueError") = some true)
    (fn_PaperError : K.lookup I_PaperError = some ⟨oc_PaperError, od_PaperError, .func (PySem.W.fnX "__init__" qual_PaperError (PySem.AwX.iA "reason" p1_PaperError p2_PaperError) (PySem.AwX.iB "reason" r0_PaperError r1_PaperError r2_PaperError r3_PaperError r4_PaperError r5_PaperError q1_PaperError q2_PaperError q3_PaperError q4_PaperError) (PySem.AwX.iS "reason") [("__class__", cc_PaperError)] .none .none doc_PaperError pm_PaperError an_PaperError (.ref cda_PaperError) ct_PaperError), osl_PaperError⟩)
    (co_PaperError : PySem.W.codeIn K (.ref cda_PaperError) qual_PaperError = true)
    (cd_PaperError : K.lookup cda_PaperError = some ⟨ccl_PaperError, cdd_PaperError, .fields vs_PaperError, ccs_PaperError⟩)
    (v2_PaperError : vs_PaperError[2]? = some (.str file_PaperError tf_PaperError))
    (fl_PaperError : ((PySem.Challenge.pw_leastawry_k00_errors_and_limits.main.file : Str) == file_PaperError) = true)
    (ce_PaperError : K.lookup cc_PaperError = some ⟨cl_PaperError, cld_PaperError, .cell (some (.ref D_PaperError)), csl_PaperError⟩)
    (cD_PaperError : PySem.W.clsIn K D_PaperError = some cdD_PaperError)
    (mr_PaperError : PySem.W.mroIn K C_PaperError (.ref D_PaperError) = some true)
    (su_PaperError : PySem.W.ks_superIn K C_PaperError D_PaperError "__init__" = some (some (.builtin "ValueError.__init__")))
    (li_PaperError : (r2_PaperError.endLine == r4_PaperError.line) = true)
    (kl_TooMany : K.lookup C_TooMany = some (PySem.excClassObj nm_TooMany q_TooMany C_TooMany N_TooMany bs_TooMany bm_TooMany true sn_TooMany sub_TooMany ab_TooMany col_TooMany dd_TooMany h0_TooMany h1_TooMany h2_TooMany h3_TooMany h5_TooMany "ValueError.__new__"))
    (rf_TooMany : PySem.HandSPX.refsVE bm_TooMany = true)
    (sa_TooMany : PySem.W.findIn K (.ref C_TooMany) "__setattr__" = some (some (.builtin "object.__setattr__")))
    (ga_TooMany : PySem.W.findIn K (.ref C_TooMany) "__getattribute__" = some (some (.builtin "BaseException.__getattribute__")))
    (gg_TooMany : PySem.W.findIn K (.ref C_TooMany) "__getattr__" = some none)
    (no_TooMany : PySem.W.findIn K (.ref C_TooMany) "reason" = some none)
    (in_TooMany : PySem.W.findIn K (.ref C_TooMany) "__init__" = some (some (.ref I_TooMany)))
    (tc_TooMany : PySem.W.typeIn K (.ref I_TooMany) = some (.type "function"))
    (kc_TooMany : PySem.W.keepIn K (.ref C_TooMany) = true)
    (ve_TooMany : PySem.W.subIn K (.ref C_TooMany) (.type "ValueError") = some true)
    (fn_TooMany : K.lookup I_TooMany = some ⟨oc_TooMany, od_TooMany, .func (PySem.W.fnX "__init__" qual_TooMany (PySem.AwX.iA "reason" p1_TooMany p2_TooMany) (PySem.AwX.iB "reason" r0_TooMany r1_TooMany r2_TooMany r3_TooMany r4_TooMany r5_TooMany q1_TooMany q2_TooMany q3_TooMany q4_TooMany) (PySem.AwX.iS "reason") [("__class__", cc_TooMany)] .none .none doc_TooMany pm_TooMany an_TooMany (.ref cda_TooMany) ct_TooMany), osl_TooMany⟩)
    (co_TooMany : PySem.W.codeIn K (.ref cda_TooMany) qual_TooMany = true)
    (cd_TooMany : K.lookup cda_TooMany = some ⟨ccl_TooMany, cdd_TooMany, .fields vs_TooMany, ccs_TooMany⟩)
    (v2_TooMany : vs_TooMany[2]? = some (.str file_TooMany tf_TooMany))
    (fl_TooMany : ((PySem.Challenge.pw_leastawry_k00_errors_and_limits.main.file : Str) == file_TooMany) = true)
    (ce_TooMany : K.lookup cc_TooMany = some ⟨cl_TooMany, cld_TooMany, .cell (some (.ref D_TooMany)), csl_TooMany⟩)
    (cD_TooMany : PySem.W.clsIn K D_TooMany = some cdD_TooMany)
    (mr_TooMany : PySem.W.mroIn K C_TooMany (.ref D_TooMany) = some true)
    (su_TooMany : PySem.W.ks_superIn K C_TooMany D_TooMany "__init__" = some (some (.builtin "ValueError.__init__")))
    (li_TooMany : (r2_TooMany.endLine == r4_TooMany.line) = true)
    (kl_TextError : K.lookup C_TextError = some (PySem.excClassObj nm_TextError q_TextError C_TextError N_TextError bs_TextError bm_TextError true sn_TextError sub_TextError ab_TextError col_TextError dd_TextError h0_TextError h1_TextError h2_TextError h3_TextError h5_TextError "ValueError.__new__"))
    (rf_TextError : PySem.HandSPX.refsVE bm_TextError = true)
    (sa_TextError : PySem.W.findIn K (.ref C_TextError) "__setattr__" = some (some (.builtin "object.__setattr__")))
    (ga_TextError : PySem.W.findIn K (.ref C_TextError) "__getattribute__" = some (some (.builtin "BaseException.__getattribute__")))
    (gg_TextError : PySem.W.findIn K (.ref C_TextError) "__getattr__" = some none)
    (no_TextError : PySem.W.findIn K (.ref C_TextError) "at" = some none)
    (in_TextError : PySem.W.findIn K (.ref C_TextError) "__init__" = some (some (.ref I_TextError)))
    (tc_TextError : PySem.W.typeIn K (.ref I_TextError) = some (.type "function"))
    (kc_TextError : PySem.W.keepIn K (.ref C_TextError) = true)
    (ve_TextError : PySem.W.subIn K (.ref C_TextError) (.type "ValueError") = some true)
    (fn_TextError : K.lookup I_TextError = some ⟨oc_TextError, od_TextError, .func (PySem.W.fnX "__init__" qual_TextError (PySem.AwX.iA "at" p1_TextError p2_TextError) (PySem.AwX.iB "at" r0_TextError r1_TextError r2_TextError r3_TextError r4_TextError r5_TextError q1_TextError q2_TextError q3_TextError q4_TextError) (PySem.AwX.iS "at") [("__class__", cc_TextError)] .none .none doc_TextError pm_TextError an_TextError (.ref cda_TextError) ct_TextError), osl_TextError⟩)
    (co_TextError : PySem.W.codeIn K (.ref cda_TextError) qual_TextError = true)
    (cd_TextError : K.lookup cda_TextError = some ⟨ccl_TextError, cdd_TextError, .fields vs_TextError, ccs_TextError⟩)
    (v2_TextError : vs_TextError[2]? = some (.str file_TextError tf_TextError))
    (fl_TextError : ((PySem.Challenge.pw_leastawry_k00_errors_and_limits.main.file : Str) == file_TextError) = true)
    (ce_TextError : K.lookup cc_TextError = some ⟨cl_TextError, cld_TextError, .cell (some (.ref D_TextError)), csl_TextError⟩)
    (cD_TextError : PySem.W.clsIn K D_TextError = some cdD_TextError)
    (mr_TextError : PySem.W.mroIn K C_TextError (.ref D_TextError) = some true)
    (su_TextError : PySem.W.ks_superIn K C_TextError D_TextError "__init__" = some (some (.builtin "ValueError.__init__")))
    (li_TextError : (r2_TextError.endLine == r4_TextError.line) = true)
    (n2_LogError : PySem.W.findIn K (.ref C_LogError) "reason" = some none)
    (kl_LogError : K.lookup C_LogError = some (PySem.excClassObj nm_LogError q_LogError C_LogError N_LogError bs_LogError bm_LogError true sn_LogError sub_LogError ab_LogError col_LogError dd_LogError h0_LogError h1_LogError h2_LogError h3_LogError h5_LogError "ValueError.__new__"))
    (rf_LogError : PySem.HandSPX.refsVE bm_LogError = true)
    (sa_LogError : PySem.W.findIn K (.ref C_LogError) "__setattr__" = some (some (.builtin "object.__setattr__")))
    (ga_LogError : PySem.W.findIn K (.ref C_LogError) "__getattribute__" = some (some (.builtin "BaseException.__getattribute__")))
    (gg_LogError : PySem.W.findIn K (.ref C_LogError) "__getattr__" = some none)
    (no_LogError : PySem.W.findIn K (.ref C_LogError) "number" = some none)
    (in_LogError : PySem.W.findIn K (.ref C_LogError) "__init__" = some (some (.ref I_LogError)))
    (tc_LogError : PySem.W.typeIn K (.ref I_LogError) = some (.type "function"))
    (kc_LogError : PySem.W.keepIn K (.ref C_LogError) = true)
    (ve_LogError : PySem.W.subIn K (.ref C_LogError) (.type "ValueError") = some true)
    (fn_LogError : K.lookup I_LogError = some ⟨oc_LogError, od_LogError, .func (PySem.W.fnX "__init__" qual_LogError (PySem.AwX.jA p1_LogError p2_LogError p3_LogError) (PySem.AwX.jB r0_LogError r1_LogError r2_LogError r3_LogError x3_LogError r4_LogError r5_LogError q1_LogError q2_LogError q3_LogError q4_LogError u1_LogError u2_LogError u3_LogError u4_LogError) PySem.AwX.jS [("__class__", cc_LogError)] .none .none doc_LogError pm_LogError an_LogError (.ref cda_LogError) ct_LogError), osl_LogError⟩)
    (co_LogError : PySem.W.codeIn K (.ref cda_LogError) qual_LogError = true)
    (cd_LogError : K.lookup cda_LogError = some ⟨ccl_LogError, cdd_LogError, .fields vs_LogError, ccs_LogError⟩)
    (v2_LogError : vs_LogError[2]? = some (.str file_LogError tf_LogError))
    (fl_LogError : ((PySem.Challenge.pw_leastawry_k00_errors_and_limits.main.file : Str) == file_LogError) = true)
    (ce_LogError : K.lookup cc_LogError = some ⟨cl_LogError, cld_LogError, .cell (some (.ref D_LogError)), csl_LogError⟩)
    (cD_LogError : PySem.W.clsIn K D_LogError = some cdD_LogError)
    (mr_LogError : PySem.W.mroIn K C_LogError (.ref D_LogError) = some true)
    (su_LogError : PySem.W.ks_superIn K C_LogError D_LogError "__init__" = some (some (.builtin "ValueError.__init__")))
    (li_LogError : (r2_LogError.endLine == r4_LogError.line) = true)
    (kl_CommandError : K.lookup C_CommandError = some (PySem.excClassObj nm_CommandError q_CommandError C_CommandError N_CommandError bs_CommandError bm_CommandError true sn_CommandError sub_CommandError ab_CommandError col_CommandError dd_CommandError h0_CommandError h1_CommandError h2_CommandError h3_CommandError h5_CommandError "ValueError.__new__"))
    (rf_CommandError : PySem.HandSPX.refsVE bm_CommandError = true)
    (sa_CommandError : PySem.W.findIn K (.ref C_CommandError) "__setattr__" = some (some (.builtin "object.__setattr__")))
    (ga_CommandError : PySem.W.findIn K (.ref C_CommandError) "__getattribute__" = some (some (.builtin "BaseException.__getattribute__")))
    (gg_CommandError : PySem.W.findIn K (.ref C_CommandError) "__getattr__" = some none)
    (no_CommandError : PySem.W.findIn K (.ref C_CommandError) "line" = some none)
    (in_CommandError : PySem.W.findIn K (.ref C_CommandError) "__init__" = some (some (.ref I_CommandError)))
    (tc_CommandError : PySem.W.typeIn K (.ref I_CommandError) = some (.type "function"))
    (kc_CommandError : PySem.W.keepIn K (.ref C_CommandError) = true)
    (ve_CommandError : PySem.W.subIn K (.ref C_CommandError) (.type "ValueError") = some true)
    (fn_CommandError : K.lookup I_CommandError = some ⟨oc_CommandError, od_CommandError, .func (PySem.W.fnX "__init__" qual_CommandError (PySem.AwX.iA "line" p1_CommandError p2_CommandError) (PySem.AwX.iB "line" r0_CommandError r1_CommandError r2_CommandError r3_CommandError r4_CommandError r5_CommandError q1_CommandError q2_CommandError q3_CommandError q4_CommandError) (PySem.AwX.iS "line") [("__class__", cc_CommandError)] .none .none doc_CommandError pm_CommandError an_CommandError (.ref cda_CommandError) ct_CommandError), osl_CommandError⟩)
    (co_CommandError : PySem.W.codeIn K (.ref cda_CommandError) qual_CommandError = true)
    (cd_CommandError : K.lookup cda_CommandError = some ⟨ccl_CommandError, cdd_CommandError, .fields vs_CommandError, ccs_CommandError⟩)
    (v2_CommandError : vs_CommandError[2]? = some (.str file_CommandError tf_CommandError))
    (fl_CommandError : ((PySem.Challenge.pw_leastawry_k00_errors_and_limits.main.file : Str) == file_CommandError) = true)
    (ce_CommandError : K.lookup cc_CommandError = some ⟨cl_CommandError, cld_CommandError, .cell (some (.ref D_CommandError)), csl_CommandError⟩)
    (cD_CommandError : PySem.W.clsIn K D_CommandError = some cdD_CommandError)
    (mr_CommandError : PySem.W.mroIn K C_CommandError (.ref D_CommandError) = some true)
    (su_CommandError : PySem.W.ks_superIn K C_CommandError D_CommandError "__init__" = some (some (.builtin "ValueError.__init__")))
    (li_CommandError : (r2_CommandError.endLine == r4_CommandError.line) = true)
    (s_ArgumentError_AwryError : PySem.W.subIn K (.ref C_ArgumentError) (.ref C_AwryError) = some true)
    (s_CheckError_AwryError : PySem.W.subIn K (.ref C_CheckError) (.ref C_AwryError) = some true)
    (s_PaperError_AwryError : PySem.W.subIn K (.ref C_PaperError) (.ref C_AwryError) = some true)
    (s_TooMany_AwryError : PySem.W.subIn K (.ref C_TooMany) (.ref C_AwryError) = some true)
    (s_TextError_AwryError : PySem.W.subIn K (.ref C_TextError) (.ref C_AwryError) = some true)
    (s_LogError_AwryError : PySem.W.subIn K (.ref C_LogError) (.ref C_AwryError) = some true)
    (s_CommandError_AwryError : PySem.W.subIn K (.ref C_CommandError) (.ref C_AwryError) = some true)
    (s_ArgumentError_CommandError : PySem.W.subIn K (.ref C_ArgumentError) (.ref C_CommandError) = some false)
    (s_CheckError_CommandError : PySem.W.subIn K (.ref C_CheckError) (.ref C_CommandError) = some false)
    (s_PaperError_CommandError : PySem.W.subIn K (.ref C_PaperError) (.ref C_CommandError) = some false)
    (s_TooMany_CommandError : PySem.W.subIn K (.ref C_TooMany) (.ref C_CommandError) = some false)
    (s_TextError_CommandError : PySem.W.subIn K (.ref C_TextError) (.ref C_CommandError) = some false)
    (s_LogError_CommandError : PySem.W.subIn K (.ref C_LogError) (.ref C_CommandError) = some false)
    (s_CommandError_CommandError : PySem.W.subIn K (.ref C_CommandError) (.ref C_CommandError) = some true)
    (s_ArgumentError_LogError : PySem.W.subIn K (.ref C_ArgumentError) (.ref C_LogError) = some false)
    (s_CheckError_LogError : PySem.W.subIn K (.ref C_CheckError) (.ref C_LogError) = some false)
    (s_PaperError_LogError : PySem.W.subIn K (.ref C_PaperError) (.ref C_LogError) = some false)
    (s_TooMany_LogError : PySem.W.subIn K (.ref C_TooMany) (.ref C_LogError) = some false)
    (s_TextError_LogError : PySem.W.subIn K (.ref C_TextError) (.ref C_LogError) = some false)
    (s_LogError_LogError : PySem.W.subIn K (.ref C_LogError) (.ref C_LogError) = some true)
    (s_CommandError_LogError : PySem.W.subIn K (.ref C_CommandError) (.ref C_LogError) = some false)
    (s_ArgumentError_TextError : PySem.W.subIn K (.ref C_ArgumentError) (.ref C_TextError) = some false)
    (s_CheckError_TextError : PySem.W.subIn K (.ref C_CheckError) (.ref C_TextError) = some false)
    (s_PaperError_TextError : PySem.W.subIn K (.ref C_PaperError) (.ref C_TextError) = some false)
    (s_TooMany_TextError : PySem.W.subIn K (.ref C_TooMany) (.ref C_TextError) = some false)
    (s_TextError_TextError : PySem.W.subIn K (.ref C_TextError) (.ref C_TextError) = some true)
    (s_LogError_TextError : PySem.W.subIn K (.ref C_LogError) (.ref C_TextError) = some false)
    (s_CommandError_TextError : PySem.W.subIn K (.ref C_CommandError) (.ref C_TextError) = some false)
    (s_ArgumentError_CheckError : PySem.W.subIn K (.ref C_ArgumentError) (.ref C_CheckError) = some false)
    (s_CheckError_CheckError : PySem.W.subIn K (.ref C_CheckError) (.ref C_CheckError) = some true)
    (s_PaperError_CheckError : PySem.W.subIn K (.ref C_PaperError) (.ref C_CheckError) = some false)
    (s_TooMany_CheckError : PySem.W.subIn K (.ref C_TooMany) (.ref C_CheckError) = some false)
    (s_TextError_CheckError : PySem.W.subIn K (.ref C_TextError) (.ref C_CheckError) = some false)
    (s_LogError_CheckError : PySem.W.subIn K (.ref C_LogError) (.ref C_CheckError) = some false)
    (s_CommandError_CheckError : PySem.W.subIn K (.ref C_CommandError) (.ref C_CheckError) = some false)
    (s_ArgumentError_TooMany : PySem.W.subIn K (.ref C_ArgumentError) (.ref C_TooMany) = some false)
    (s_CheckError_TooMany : PySem.W.subIn K (.ref C_CheckError) (.ref C_TooMany) = some false)
    (s_PaperError_TooMany : PySem.W.subIn K (.ref C_PaperError) (.ref C_TooMany) = some false)
    (s_TooMany_TooMany : PySem.W.subIn K (.ref C_TooMany) (.ref C_TooMany) = some true)
    (s_TextError_TooMany : PySem.W.subIn K (.ref C_TextError) (.ref C_TooMany) = some false)
    (s_LogError_TooMany : PySem.W.subIn K (.ref C_LogError) (.ref C_TooMany) = some false)
    (s_CommandError_TooMany : PySem.W.subIn K (.ref C_CommandError) (.ref C_TooMany) = some false)
    (s_ArgumentError_PaperError : PySem.W.subIn K (.ref C_ArgumentError) (.ref C_PaperError) = some false)
    (s_CheckError_PaperError : PySem.W.subIn K (.ref C_CheckError) (.ref C_PaperError) = some false)
    (s_PaperError_PaperError : PySem.W.subIn K (.ref C_PaperError) (.ref C_PaperError) = some true)
    (s_TooMany_PaperError : PySem.W.subIn K (.ref C_TooMany) (.ref C_PaperError) = some false)
    (s_TextError_PaperError : PySem.W.subIn K (.ref C_TextError) (.ref C_PaperError) = some false)
    (s_LogError_PaperError : PySem.W.subIn K (.ref C_LogError) (.ref C_PaperError) = some false)
    (s_CommandError_PaperError : PySem.W.subIn K (.ref C_CommandError) (.ref C_PaperError) = some false)
    (s_ArgumentError_ArgumentError : PySem.W.subIn K (.ref C_ArgumentError) (.ref C_ArgumentError) = some true)
    (s_CheckError_ArgumentError : PySem.W.subIn K (.ref C_CheckError) (.ref C_ArgumentError) = some false)
    (s_PaperError_ArgumentError : PySem.W.subIn K (.ref C_PaperError) (.ref C_ArgumentError) = some false)
    (s_TooMany_ArgumentError : PySem.W.subIn K (.ref C_TooMany) (.ref C_ArgumentError) = some false)
    (s_TextError_ArgumentError : PySem.W.subIn K (.ref C_TextError) (.ref C_ArgumentError) = some false)
    (s_LogError_ArgumentError : PySem.W.subIn K (.ref C_LogError) (.ref C_ArgumentError) = some false)
    (s_CommandError_ArgumentError : PySem.W.subIn K (.ref C_CommandError) (.ref C_ArgumentError) = some false)
    (nk : PySem.W.specialIn K (.builtin "object.__class__") "__get__" = some (some (.builtin "getset_descriptor.__get__")))
    (tk : PySem.W.takesIn K (.builtin "object.__class__") = some true)
    (cq_CheckError : PySem.W.clsIn K C_CheckError = some cq_CheckError)
    (cx_ArgumentError : PySem.W.clsIn K C_ArgumentError = some cx_ArgumentError)
    (cs_ArgumentError : PySem.W.findIn K (.ref C_ArgumentError) "__class__" = some (some (.builtin "object.__class__")))
    (mo_ArgumentError : PySem.W.mroIn K C_ArgumentError (.type "object") = some true)
    (i_ArgumentError_CheckError : PySem.W.subIn K (.ref C_ArgumentError) (.ref C_CheckError) = some false)
    (e_ArgumentError_CheckError : (Value.ref C_ArgumentError == Value.ref C_CheckError) = false)
    (cx_CheckError : PySem.W.clsIn K C_CheckError = some cx_CheckError)
    (cs_CheckError : PySem.W.findIn K (.ref C_CheckError) "__class__" = some (some (.builtin "object.__class__")))
    (mo_CheckError : PySem.W.mroIn K C_CheckError (.type "object") = some true)
    (i_CheckError_CheckError : PySem.W.subIn K (.ref C_CheckError) (.ref C_CheckError) = some true)
    (cx_PaperError : PySem.W.clsIn K C_PaperError = some cx_PaperError)
    (cs_PaperError : PySem.W.findIn K (.ref C_PaperError) "__class__" = some (some (.builtin "object.__class__")))
    (mo_PaperError : PySem.W.mroIn K C_PaperError (.type "object") = some true)
    (i_PaperError_CheckError : PySem.W.subIn K (.ref C_PaperError) (.ref C_CheckError) = some false)
    (e_PaperError_CheckError : (Value.ref C_PaperError == Value.ref C_CheckError) = false)
    (cx_TooMany : PySem.W.clsIn K C_TooMany = some cx_TooMany)
    (cs_TooMany : PySem.W.findIn K (.ref C_TooMany) "__class__" = some (some (.builtin "object.__class__")))
    (mo_TooMany : PySem.W.mroIn K C_TooMany (.type "object") = some true)
    (i_TooMany_CheckError : PySem.W.subIn K (.ref C_TooMany) (.ref C_CheckError) = some false)
    (e_TooMany_CheckError : (Value.ref C_TooMany == Value.ref C_CheckError) = false)
    (cx_TextError : PySem.W.clsIn K C_TextError = some cx_TextError)
    (cs_TextError : PySem.W.findIn K (.ref C_TextError) "__class__" = some (some (.builtin "object.__class__")))
    (mo_TextError : PySem.W.mroIn K C_TextError (.type "object") = some true)
    (i_TextError_CheckError : PySem.W.subIn K (.ref C_TextError) (.ref C_CheckError) = some false)
    (e_TextError_CheckError : (Value.ref C_TextError == Value.ref C_CheckError) = false)
    (cx_LogError : PySem.W.clsIn K C_LogError = some cx_LogError)
    (cs_LogError : PySem.W.findIn K (.ref C_LogError) "__class__" = some (some (.builtin "object.__class__")))
    (mo_LogError : PySem.W.mroIn K C_LogError (.type "object") = some true)
    (i_LogError_CheckError : PySem.W.subIn K (.ref C_LogError) (.ref C_CheckError) = some false)
    (e_LogError_CheckError : (Value.ref C_LogError == Value.ref C_CheckError) = false)
    (cx_CommandError : PySem.W.clsIn K C_CommandError = some cx_CommandError)
    (cs_CommandError : PySem.W.findIn K (.ref C_CommandError) "__class__" = some (some (.builtin "object.__class__")))
    (mo_CommandError : PySem.W.mroIn K C_CommandError (.type "object") = some true)
    (i_CommandError_CheckError : PySem.W.subIn K (.ref C_CommandError) (.ref C_CheckError) = some false)
    (e_CommandError_CheckError : (Value.ref C_CommandError == Value.ref C_CheckError) = false)
    (cq_TooMany : PySem.W.clsIn K C_TooMany = some cq_TooMany)
    (i_ArgumentError_TooMany : PySem.W.subIn K (.ref C_ArgumentError) (.ref C_TooMany) = some false)
    (e_ArgumentError_TooMany : (Value.ref C_ArgumentError == Value.ref C_TooMany) = false)
    (i_CheckError_TooMany : PySem.W.subIn K (.ref C_CheckError) (.ref C_TooMany) = some false)
    (e_CheckError_TooMany : (Value.ref C_CheckError == Value.ref C_TooMany) = false)
    (i_PaperError_TooMany : PySem.W.subIn K (.ref C_PaperError) (.ref C_TooMany) = some false)
    (e_PaperError_TooMany : (Value.ref C_PaperError == Value.ref C_TooMany) = false)
    (i_TooMany_TooMany : PySem.W.subIn K (.ref C_TooMany) (.ref C_TooMany) = some true)
    (i_TextError_TooMany : PySem.W.subIn K (.ref C_TextError) (.ref C_TooMany) = some false)
    (e_TextError_TooMany : (Value.ref C_TextError == Value.ref C_TooMany) = false)
    (i_LogError_TooMany : PySem.W.subIn K (.ref C_LogError) (.ref C_TooMany) = some false)
    (e_LogError_TooMany : (Value.ref C_LogError == Value.ref C_TooMany) = false)
    (i_CommandError_TooMany : PySem.W.subIn K (.ref C_CommandError) (.ref C_TooMany) = some false)
    (e_CommandError_TooMany : (Value.ref C_CommandError == Value.ref C_TooMany) = false)
    (cq_PaperError : PySem.W.clsIn K C_PaperError = some cq_PaperError)
    (i_ArgumentError_PaperError : PySem.W.subIn K (.ref C_ArgumentError) (.ref C_PaperError) = some false)
    (e_ArgumentError_PaperError : (Value.ref C_ArgumentError == Value.ref C_PaperError) = false)
    (i_CheckError_PaperError : PySem.W.subIn K (.ref C_CheckError) (.ref C_PaperError) = some false)
    (e_CheckError_PaperError : (Value.ref C_CheckError == Value.ref C_PaperError) = false)
    (i_PaperError_PaperError : PySem.W.subIn K (.ref C_PaperError) (.ref C_PaperError) = some true)
    (i_TooMany_PaperError : PySem.W.subIn K (.ref C_TooMany) (.ref C_PaperError) = some false)
    (e_TooMany_PaperError : (Value.ref C_TooMany == Value.ref C_PaperError) = false)
    (i_TextError_PaperError : PySem.W.subIn K (.ref C_TextError) (.ref C_PaperError) = some false)
    (e_TextError_PaperError : (Value.ref C_TextError == Value.ref C_PaperError) = false)
    (i_LogError_PaperError : PySem.W.subIn K (.ref C_LogError) (.ref C_PaperError) = some false)
    (e_LogError_PaperError : (Value.ref C_LogError == Value.ref C_PaperError) = false)
    (i_CommandError_PaperError : PySem.W.subIn K (.ref C_CommandError) (.ref C_PaperError) = some false)
    (e_CommandError_PaperError : (Value.ref C_CommandError == Value.ref C_PaperError) = false)
    (cq_ArgumentError : PySem.W.clsIn K C_ArgumentError = some cq_ArgumentError)
    (i_ArgumentError_ArgumentError : PySem.W.subIn K (.ref C_ArgumentError) (.ref C_ArgumentError) = some true)
    (i_CheckError_ArgumentError : PySem.W.subIn K (.ref C_CheckError) (.ref C_ArgumentError) = some false)
    (e_CheckError_ArgumentError : (Value.ref C_CheckError == Value.ref C_ArgumentError) = false)
    (i_PaperError_ArgumentError : PySem.W.subIn K (.ref C_PaperError) (.ref C_ArgumentError) = some false)
    (e_PaperError_ArgumentError : (Value.ref C_PaperError == Value.ref C_ArgumentError) = false)
    (i_TooMany_ArgumentError : PySem.W.subIn K (.ref C_TooMany) (.ref C_ArgumentError) = some false)
    (e_TooMany_ArgumentError : (Value.ref C_TooMany == Value.ref C_ArgumentError) = false)
    (i_TextError_ArgumentError : PySem.W.subIn K (.ref C_TextError) (.ref C_ArgumentError) = some false)
    (e_TextError_ArgumentError : (Value.ref C_TextError == Value.ref C_ArgumentError) = false)
    (i_LogError_ArgumentError : PySem.W.subIn K (.ref C_LogError) (.ref C_ArgumentError) = some false)
    (e_LogError_ArgumentError : (Value.ref C_LogError == Value.ref C_ArgumentError) = false)
    (i_CommandError_ArgumentError : PySem.W.subIn K (.ref C_CommandError) (.ref C_ArgumentError) = some false)
    (e_CommandError_ArgumentError : (Value.ref C_CommandError == Value.ref C_ArgumentError) = false)
    (cq_CommandError : PySem.W.clsIn K C_CommandError = some cq_CommandError)
    (i_ArgumentError_CommandError : PySem.W.subIn K (.ref C_ArgumentError) (.ref C_CommandError) = some false)
    (e_ArgumentError_CommandError : (Value.ref C_ArgumentError == Value.ref C_CommandError) = false)
    (i_CheckError_CommandError : PySem.W.subIn K (.ref C_CheckError) (.ref C_CommandError) = some false)
    (e_CheckError_CommandError : (Value.ref C_CheckError == Value.ref C_CommandError) = false)
    (i_PaperError_CommandError : PySem.W.subIn K (.ref C_PaperError) (.ref C_CommandError) = some false)
    (e_PaperError_CommandError : (Value.ref C_PaperError == Value.ref C_CommandError) = false)
    (i_TooMany_CommandError : PySem.W.subIn K (.ref C_TooMany) (.ref C_CommandError) = some false)
    (e_TooMany_CommandError : (Value.ref C_TooMany == Value.ref C_CommandError) = false)
    (i_TextError_CommandError : PySem.W.subIn K (.ref C_TextError) (.ref C_CommandError) = some false)
    (e_TextError_CommandError : (Value.ref C_TextError == Value.ref C_CommandError) = false)
    (i_LogError_CommandError : PySem.W.subIn K (.ref C_LogError) (.ref C_CommandError) = some false)
    (e_LogError_CommandError : (Value.ref C_LogError == Value.ref C_CommandError) = false)
    (i_CommandError_CommandError : PySem.W.subIn K (.ref C_CommandError) (.ref C_CommandError) = some true)
    (cq_LogError : PySem.W.clsIn K C_LogError = some cq_LogError)
    (i_ArgumentError_LogError : PySem.W.subIn K (.ref C_ArgumentError) (.ref C_LogError) = some false)
    (e_ArgumentError_LogError : (Value.ref C_ArgumentError == Value.ref C_LogError) = false)
    (i_CheckError_LogError : PySem.W.subIn K (.ref C_CheckError) (.ref C_LogError) = some false)
    (e_CheckError_LogError : (Value.ref C_CheckError == Value.ref C_LogError) = false)
    (i_PaperError_LogError : PySem.W.subIn K (.ref C_PaperError) (.ref C_LogError) = some false)
    (e_PaperError_LogError : (Value.ref C_PaperError == Value.ref C_LogError) = false)
    (i_TooMany_LogError : PySem.W.subIn K (.ref C_TooMany) (.ref C_LogError) = some false)
    (e_TooMany_LogError : (Value.ref C_TooMany == Value.ref C_LogError) = false)
    (i_TextError_LogError : PySem.W.subIn K (.ref C_TextError) (.ref C_LogError) = some false)
    (e_TextError_LogError : (Value.ref C_TextError == Value.ref C_LogError) = false)
    (i_LogError_LogError : PySem.W.subIn K (.ref C_LogError) (.ref C_LogError) = some true)
    (i_CommandError_LogError : PySem.W.subIn K (.ref C_CommandError) (.ref C_LogError) = some false)
    (e_CommandError_LogError : (Value.ref C_CommandError == Value.ref C_LogError) = false)
    (cq_TextError : PySem.W.clsIn K C_TextError = some cq_TextError)
    (i_ArgumentError_TextError : PySem.W.subIn K (.ref C_ArgumentError) (.ref C_TextError) = some false)
    (e_ArgumentError_TextError : (Value.ref C_ArgumentError == Value.ref C_TextError) = false)
    (i_CheckError_TextError : PySem.W.subIn K (.ref C_CheckError) (.ref C_TextError) = some false)
    (e_CheckError_TextError : (Value.ref C_CheckError == Value.ref C_TextError) = false)
    (i_PaperError_TextError : PySem.W.subIn K (.ref C_PaperError) (.ref C_TextError) = some false)
    (e_PaperError_TextError : (Value.ref C_PaperError == Value.ref C_TextError) = false)
    (i_TooMany_TextError : PySem.W.subIn K (.ref C_TooMany) (.ref C_TextError) = some false)
    (e_TooMany_TextError : (Value.ref C_TooMany == Value.ref C_TextError) = false)
    (i_TextError_TextError : PySem.W.subIn K (.ref C_TextError) (.ref C_TextError) = some true)
    (i_LogError_TextError : PySem.W.subIn K (.ref C_LogError) (.ref C_TextError) = some false)
    (e_LogError_TextError : (Value.ref C_LogError == Value.ref C_TextError) = false)
    (i_CommandError_TextError : PySem.W.subIn K (.ref C_CommandError) (.ref C_TextError) = some false)
    (e_CommandError_TextError : (Value.ref C_CommandError == Value.ref C_TextError) = false)
    (i_ArgumentError_ValueError : PySem.W.subIn K (.ref C_ArgumentError) (.type "ValueError") = some true)
    (i_CheckError_ValueError : PySem.W.subIn K (.ref C_CheckError) (.type "ValueError") = some true)
    (i_PaperError_ValueError : PySem.W.subIn K (.ref C_PaperError) (.type "ValueError") = some true)
    (i_TooMany_ValueError : PySem.W.subIn K (.ref C_TooMany) (.type "ValueError") = some true)
    (i_TextError_ValueError : PySem.W.subIn K (.ref C_TextError) (.type "ValueError") = some true)
    (i_LogError_ValueError : PySem.W.subIn K (.ref C_LogError) (.type "ValueError") = some true)
    (i_CommandError_ValueError : PySem.W.subIn K (.ref C_CommandError) (.type "ValueError") = some true) :
    ∃ (fd : FuncData) (xt : List XC), (∀ (s : Shared) (v : Value), BindsTo s fd ⟨[v], []⟩ [("script", v)]) ∧ ∀ base : Heap, K.In base → base.Ns mainGlobals mg → FnG PySem.Challenge.pw_leastawry_k00_errors_and_limits w K mg base 4 fa fd ["script"] (spD K none xt 1 m_law) := by
  have F21 := fun_mk (st := topS 21) l21 c21 k21
  have M21 : mg "_law_draws" = some (.ref f21) := PySem.W.mg_of X G a21
  have F22 := fun_mk (st := topS 22) l22 c22 k22
  have M22 : mg "_law_more" = some (.ref f22) := PySem.W.mg_of X G a22
  have F23 := fun_mk (st := topS 23) l23 c23 k23
  have M23 : mg "_law_take" = some (.ref f23) := PySem.W.mg_of X G a23
  have F24 := fun_mk (st := topS 24) l24 c24 k24
  have M24 : mg "_law_one" = some (.ref f24) := PySem.W.mg_of X G a24
  have F25 := fun_mk (st := topS 25) l25 c25 k25
  have M25 : mg "_law_limits_right" = some (.ref f25) := PySem.W.mg_of X G a25
  have F26 := fun_mk (st := topS 26) l26 c26 k26
  have M26 : mg "_law_raise" = some (.ref f26) := PySem.W.mg_of X G a26
  have F27 := fun_mk (st := topS 27) l27 c27 k27
  have M27 : mg "_law_kinds" = some (.ref f27) := PySem.W.mg_of X G a27
  have F28 := fun_mk (st := topS 28) l28 c28 k28
  have M28 : mg "_law_caught" = some (.ref f28) := PySem.W.mg_of X G a28
  have F29 := fun_mk (st := topS 29) l29 c29 k29
  have M29 : mg "_law_fields" = some (.ref f29) := PySem.W.mg_of X G a29
  have F30 := fun_mk (st := topS 30) l30 c30 k30
  have M30 : mg "law" = some (.ref f30) := PySem.W.mg_of X G a30
  have z_abs : mg "abs" = none := PySem.W.mg_none_of X G n_abs
  have z_range : mg "range" = none := PySem.W.mg_none_of X G n_range
  have z_int : mg "int" = none := PySem.W.mg_none_of X G n_int
  have z_len : mg "len" = none := PySem.W.mg_none_of X G n_len
  have z_repr : mg "repr" = none := PySem.W.mg_none_of X G n_repr
  have z_isinstance : mg "isinstance" = none := PySem.W.mg_none_of X G n_isinstance
  have z_ValueError : mg "ValueError" = none := PySem.W.mg_none_of X G n_ValueError
  have c_MAX_LINES := PySem.W.mg_of X G a_MAX_LINES
  have c_MAX_TRIED := PySem.W.mg_of X G a_MAX_TRIED
  have c_MAX_TEXT := PySem.W.mg_of X G a_MAX_TEXT
  have c_MAX_TERMS := PySem.W.mg_of X G a_MAX_TERMS
  have c_MAX_ROWS := PySem.W.mg_of X G a_MAX_ROWS
  have c_MAX_SETTINGS := PySem.W.mg_of X G a_MAX_SETTINGS
  have c_MAX_COLUMNS := PySem.W.mg_of X G a_MAX_COLUMNS
  have c_MAX_UNITS := PySem.W.mg_of X G a_MAX_UNITS
  have c_MAX_NAME := PySem.W.mg_of X G a_MAX_NAME
  have c_MAX_PART := PySem.W.mg_of X G a_MAX_PART
  have c_ArgumentError : mg "ArgumentError" = some (.ref C_ArgumentError) := PySem.W.mg_of X G g_ArgumentError
  have c_PaperError : mg "PaperError" = some (.ref C_PaperError) := PySem.W.mg_of X G g_PaperError
  have c_TooMany : mg "TooMany" = some (.ref C_TooMany) := PySem.W.mg_of X G g_TooMany
  have c_CheckError : mg "CheckError" = some (.ref C_CheckError) := PySem.W.mg_of X G g_CheckError
  have c_TextError : mg "TextError" = some (.ref C_TextError) := PySem.W.mg_of X G g_TextError
  have c_LogError : mg "LogError" = some (.ref C_LogError) := PySem.W.mg_of X G g_LogError
  have c_CommandError : mg "CommandError" = some (.ref C_CommandError) := PySem.W.mg_of X G g_CommandError
  have c_AwryError : mg "AwryError" = some (.ref C_AwryError) := PySem.W.mg_of X G g_AwryError
  have t_ArgumentError : PySem.AwX.XTxt PySem.Challenge.pw_leastawry_k00_errors_and_limits K mg "ArgumentError" C_ArgumentError I_ArgumentError "reason" := ⟨c_ArgumentError, ⟨_, _, _, _, _, _, _, _, _, _, _, _, _, _, _, kl_ArgumentError, rf_ArgumentError⟩, sa_ArgumentError, ga_ArgumentError, gg_ArgumentError, no_ArgumentError, in_ArgumentError, tc_ArgumentError, kc_ArgumentError, ex_ArgumentError, ty_ArgumentError, hd_ArgumentError, ve_ArgumentError, tp, PySem.W.mg_none_of X G n_super, tops, ⟨_, _, _, _, _, _, _, _, _, _, _, _, _, _, _, _, _, _, _, _, _, _, _, _, _, _, _, _, _, _, _, _, _, fn_ArgumentError, co_ArgumentError, cd_ArgumentError, v2_ArgumentError, fl_ArgumentError, ce_ArgumentError, cD_ArgumentError, mr_ArgumentError, su_ArgumentError, li_ArgumentError⟩⟩
  have xf_ArgumentError : XfC K C_ArgumentError := ⟨ga_ArgumentError, gg_ArgumentError, ex_ArgumentError, hd_ArgumentError⟩
  have t_CheckError : PySem.AwX.XTxt PySem.Challenge.pw_leastawry_k00_errors_and_limits K mg "CheckError" C_CheckError I_CheckError "reason" := ⟨c_CheckError, ⟨_, _, _, _, _, _, _, _, _, _, _, _, _, _, _, kl_CheckError, rf_CheckError⟩, sa_CheckError, ga_CheckError, gg_CheckError, no_CheckError, in_CheckError, tc_CheckError, kc_CheckError, ex_CheckError, ty_CheckError, hd_CheckError, ve_CheckError, tp, PySem.W.mg_none_of X G n_super, tops, ⟨_, _, _, _, _, _, _, _, _, _, _, _, _, _, _, _, _, _, _, _, _, _, _, _, _, _, _, _, _, _, _, _, _, fn_CheckError, co_CheckError, cd_CheckError, v2_CheckError, fl_CheckError, ce_CheckError, cD_CheckError, mr_CheckError, su_CheckError, li_CheckError⟩⟩
  have xf_CheckError : XfC K C_CheckError := ⟨ga_CheckError, gg_CheckError, ex_CheckError, hd_CheckError⟩
  have t_PaperError : PySem.AwX.XTxt PySem.Challenge.pw_leastawry_k00_errors_and_limits K mg "PaperError" C_PaperError I_PaperError "reason" := ⟨c_PaperError, ⟨_, _, _, _, _, _, _, _, _, _, _, _, _, _, _, kl_PaperError, rf_PaperError⟩, sa_PaperError, ga_PaperError, gg_PaperError, no_PaperError, in_PaperError, tc_PaperError, kc_PaperError, ex_PaperError, ty_PaperError, hd_PaperError, ve_PaperError, tp, PySem.W.mg_none_of X G n_super, tops, ⟨_, _, _, _, _, _, _, _, _, _, _, _, _, _, _, _, _, _, _, _, _, _, _, _, _, _, _, _, _, _, _, _, _, fn_PaperError, co_PaperError, cd_PaperError, v2_PaperError, fl_PaperError, ce_PaperError, cD_PaperError, mr_PaperError, su_PaperError, li_PaperError⟩⟩
  have xf_PaperError : XfC K C_PaperError := ⟨ga_PaperError, gg_PaperError, ex_PaperError, hd_PaperError⟩
  have t_TooMany : PySem.AwX.XTxt PySem.Challenge.pw_leastawry_k00_errors_and_limits K mg "TooMany" C_TooMany I_TooMany "reason" := ⟨c_TooMany, ⟨_, _, _, _, _, _, _, _, _, _, _, _, _, _, _, kl_TooMany, rf_TooMany⟩, sa_TooMany, ga_TooMany, gg_TooMany, no_TooMany, in_TooMany, tc_TooMany, kc_TooMany, ex_TooMany, ty_TooMany, hd_TooMany, ve_TooMany, tp, PySem.W.mg_none_of X G n_super, tops, ⟨_, _, _, _, _, _, _, _, _, _, _, _, _, _, _, _, _, _, _, _, _, _, _, _, _, _, _, _, _, _, _, _, _, fn_TooMany, co_TooMany, cd_TooMany, v2_TooMany, fl_TooMany, ce_TooMany, cD_TooMany, mr_TooMany, su_TooMany, li_TooMany⟩⟩
  have xf_TooMany : XfC K C_TooMany := ⟨ga_TooMany, gg_TooMany, ex_TooMany, hd_TooMany⟩
  have t_TextError : PySem.AwX.XTxt PySem.Challenge.pw_leastawry_k00_errors_and_limits K mg "TextError" C_TextError I_TextError "at" := ⟨c_TextError, ⟨_, _, _, _, _, _, _, _, _, _, _, _, _, _, _, kl_TextError, rf_TextError⟩, sa_TextError, ga_TextError, gg_TextError, no_TextError, in_TextError, tc_TextError, kc_TextError, ex_TextError, ty_TextError, hd_TextError, ve_TextError, tp, PySem.W.mg_none_of X G n_super, tops, ⟨_, _, _, _, _, _, _, _, _, _, _, _, _, _, _, _, _, _, _, _, _, _, _, _, _, _, _, _, _, _, _, _, _, fn_TextError, co_TextError, cd_TextError, v2_TextError, fl_TextError, ce_TextError, cD_TextError, mr_TextError, su_TextError, li_TextError⟩⟩
  have xf_TextError : XfC K C_TextError := ⟨ga_TextError, gg_TextError, ex_TextError, hd_TextError⟩
  have t_LogError : PySem.AwX.XTxt2 PySem.Challenge.pw_leastawry_k00_errors_and_limits K mg "LogError" C_LogError I_LogError := ⟨c_LogError, ⟨_, _, _, _, _, _, _, _, _, _, _, _, _, _, _, kl_LogError, rf_LogError⟩, sa_LogError, ga_LogError, gg_LogError, no_LogError, n2_LogError, in_LogError, tc_LogError, kc_LogError, ex_LogError, ty_LogError, hd_LogError, ve_LogError, tp, PySem.W.mg_none_of X G n_super, tops, ⟨_, _, _, _, _, _, _, _, _, _, _, _, _, _, _, _, _, _, _, _, _, _, _, _, _, _, _, _, _, _, _, _, _, _, _, _, _, _, _, fn_LogError, co_LogError, cd_LogError, v2_LogError, fl_LogError, ce_LogError, cD_LogError, mr_LogError, su_LogError, li_LogError⟩⟩
  have xf_LogError : XfC K C_LogError := ⟨ga_LogError, gg_LogError, ex_LogError, hd_LogError⟩
  have t_CommandError : PySem.AwX.XTxt PySem.Challenge.pw_leastawry_k00_errors_and_limits K mg "CommandError" C_CommandError I_CommandError "line" := ⟨c_CommandError, ⟨_, _, _, _, _, _, _, _, _, _, _, _, _, _, _, kl_CommandError, rf_CommandError⟩, sa_CommandError, ga_CommandError, gg_CommandError, no_CommandError, in_CommandError, tc_CommandError, kc_CommandError, ex_CommandError, ty_CommandError, hd_CommandError, ve_CommandError, tp, PySem.W.mg_none_of X G n_super, tops, ⟨_, _, _, _, _, _, _, _, _, _, _, _, _, _, _, _, _, _, _, _, _, _, _, _, _, _, _, _, _, _, _, _, _, fn_CommandError, co_CommandError, cd_CommandError, v2_CommandError, fl_CommandError, ce_CommandError, cD_CommandError, mr_CommandError, su_CommandError, li_CommandError⟩⟩
  have xf_CommandError : XfC K C_CommandError := ⟨ga_CommandError, gg_CommandError, ex_CommandError, hd_CommandError⟩
  have cc_AwryError : Catches K [⟨C_ArgumentError, ["reason"]⟩, ⟨C_CheckError, ["reason"]⟩, ⟨C_PaperError, ["reason"]⟩, ⟨C_TooMany, ["reason"]⟩, ⟨C_TextError, ["at"]⟩, ⟨C_LogError, ["number", "reason"]⟩, ⟨C_CommandError, ["line"]⟩] (.ref C_AwryError) [0, 1, 2, 3, 4, 5, 6] := fun m C nm e => match m, e with | 0, e => by cases e; exact PySem.W.exm_ref ex_AwryError hd_AwryError ty_AwryError s_ArgumentError_AwryError | 1, e => by cases e; exact PySem.W.exm_ref ex_AwryError hd_AwryError ty_AwryError s_CheckError_AwryError | 2, e => by cases e; exact PySem.W.exm_ref ex_AwryError hd_AwryError ty_AwryError s_PaperError_AwryError | 3, e => by cases e; exact PySem.W.exm_ref ex_AwryError hd_AwryError ty_AwryError s_TooMany_AwryError | 4, e => by cases e; exact PySem.W.exm_ref ex_AwryError hd_AwryError ty_AwryError s_TextError_AwryError | 5, e => by cases e; exact PySem.W.exm_ref ex_AwryError hd_AwryError ty_AwryError s_LogError_AwryError | 6, e => by cases e; exact PySem.W.exm_ref ex_AwryError hd_AwryError ty_AwryError s_CommandError_AwryError | m + 7, e => by cases e
  have cc_CommandError : Catches K [⟨C_ArgumentError, ["reason"]⟩, ⟨C_CheckError, ["reason"]⟩, ⟨C_PaperError, ["reason"]⟩, ⟨C_TooMany, ["reason"]⟩, ⟨C_TextError, ["at"]⟩, ⟨C_LogError, ["number", "reason"]⟩, ⟨C_CommandError, ["line"]⟩] (.ref C_CommandError) [6] := fun m C nm e => match m, e with | 0, e => by cases e; exact PySem.W.exm_ref ex_CommandError hd_CommandError ty_CommandError s_ArgumentError_CommandError | 1, e => by cases e; exact PySem.W.exm_ref ex_CommandError hd_CommandError ty_CommandError s_CheckError_CommandError | 2, e => by cases e; exact PySem.W.exm_ref ex_CommandError hd_CommandError ty_CommandError s_PaperError_CommandError | 3, e => by cases e; exact PySem.W.exm_ref ex_CommandError hd_CommandError ty_CommandError s_TooMany_CommandError | 4, e => by cases e; exact PySem.W.exm_ref ex_CommandError hd_CommandError ty_CommandError s_TextError_CommandError | 5, e => by cases e; exact PySem.W.exm_ref ex_CommandError hd_CommandError ty_CommandError s_LogError_CommandError | 6, e => by cases e; exact PySem.W.exm_ref ex_CommandError hd_CommandError ty_CommandError s_CommandError_CommandError | m + 7, e => by cases e
  have cc_LogError : Catches K [⟨C_ArgumentError, ["reason"]⟩, ⟨C_CheckError, ["reason"]⟩, ⟨C_PaperError, ["reason"]⟩, ⟨C_TooMany, ["reason"]⟩, ⟨C_TextError, ["at"]⟩, ⟨C_LogError, ["number", "reason"]⟩, ⟨C_CommandError, ["line"]⟩] (.ref C_LogError) [5] := fun m C nm e => match m, e with | 0, e => by cases e; exact PySem.W.exm_ref ex_LogError hd_LogError ty_LogError s_ArgumentError_LogError | 1, e => by cases e; exact PySem.W.exm_ref ex_LogError hd_LogError ty_LogError s_CheckError_LogError | 2, e => by cases e; exact PySem.W.exm_ref ex_LogError hd_LogError ty_LogError s_PaperError_LogError | 3, e => by cases e; exact PySem.W.exm_ref ex_LogError hd_LogError ty_LogError s_TooMany_LogError | 4, e => by cases e; exact PySem.W.exm_ref ex_LogError hd_LogError ty_LogError s_TextError_LogError | 5, e => by cases e; exact PySem.W.exm_ref ex_LogError hd_LogError ty_LogError s_LogError_LogError | 6, e => by cases e; exact PySem.W.exm_ref ex_LogError hd_LogError ty_LogError s_CommandError_LogError | m + 7, e => by cases e
  have cc_TextError : Catches K [⟨C_ArgumentError, ["reason"]⟩, ⟨C_CheckError, ["reason"]⟩, ⟨C_PaperError, ["reason"]⟩, ⟨C_TooMany, ["reason"]⟩, ⟨C_TextError, ["at"]⟩, ⟨C_LogError, ["number", "reason"]⟩, ⟨C_CommandError, ["line"]⟩] (.ref C_TextError) [4] := fun m C nm e => match m, e with | 0, e => by cases e; exact PySem.W.exm_ref ex_TextError hd_TextError ty_TextError s_ArgumentError_TextError | 1, e => by cases e; exact PySem.W.exm_ref ex_TextError hd_TextError ty_TextError s_CheckError_TextError | 2, e => by cases e; exact PySem.W.exm_ref ex_TextError hd_TextError ty_TextError s_PaperError_TextError | 3, e => by cases e; exact PySem.W.exm_ref ex_TextError hd_TextError ty_TextError s_TooMany_TextError | 4, e => by cases e; exact PySem.W.exm_ref ex_TextError hd_TextError ty_TextError s_TextError_TextError | 5, e => by cases e; exact PySem.W.exm_ref ex_TextError hd_TextError ty_TextError s_LogError_TextError | 6, e => by cases e; exact PySem.W.exm_ref ex_TextError hd_TextError ty_TextError s_CommandError_TextError | m + 7, e => by cases e
  have cc_CheckError : Catches K [⟨C_ArgumentError, ["reason"]⟩, ⟨C_CheckError, ["reason"]⟩, ⟨C_PaperError, ["reason"]⟩, ⟨C_TooMany, ["reason"]⟩, ⟨C_TextError, ["at"]⟩, ⟨C_LogError, ["number", "reason"]⟩, ⟨C_CommandError, ["line"]⟩] (.ref C_CheckError) [1] := fun m C nm e => match m, e with | 0, e => by cases e; exact PySem.W.exm_ref ex_CheckError hd_CheckError ty_CheckError s_ArgumentError_CheckError | 1, e => by cases e; exact PySem.W.exm_ref ex_CheckError hd_CheckError ty_CheckError s_CheckError_CheckError | 2, e => by cases e; exact PySem.W.exm_ref ex_CheckError hd_CheckError ty_CheckError s_PaperError_CheckError | 3, e => by cases e; exact PySem.W.exm_ref ex_CheckError hd_CheckError ty_CheckError s_TooMany_CheckError | 4, e => by cases e; exact PySem.W.exm_ref ex_CheckError hd_CheckError ty_CheckError s_TextError_CheckError | 5, e => by cases e; exact PySem.W.exm_ref ex_CheckError hd_CheckError ty_CheckError s_LogError_CheckError | 6, e => by cases e; exact PySem.W.exm_ref ex_CheckError hd_CheckError ty_CheckError s_CommandError_CheckError | m + 7, e => by cases e
  have cc_TooMany : Catches K [⟨C_ArgumentError, ["reason"]⟩, ⟨C_CheckError, ["reason"]⟩, ⟨C_PaperError, ["reason"]⟩, ⟨C_TooMany, ["reason"]⟩, ⟨C_TextError, ["at"]⟩, ⟨C_LogError, ["number", "reason"]⟩, ⟨C_CommandError, ["line"]⟩] (.ref C_TooMany) [3] := fun m C nm e => match m, e with | 0, e => by cases e; exact PySem.W.exm_ref ex_TooMany hd_TooMany ty_TooMany s_ArgumentError_TooMany | 1, e => by cases e; exact PySem.W.exm_ref ex_TooMany hd_TooMany ty_TooMany s_CheckError_TooMany | 2, e => by cases e; exact PySem.W.exm_ref ex_TooMany hd_TooMany ty_TooMany s_PaperError_TooMany | 3, e => by cases e; exact PySem.W.exm_ref ex_TooMany hd_TooMany ty_TooMany s_TooMany_TooMany | 4, e => by cases e; exact PySem.W.exm_ref ex_TooMany hd_TooMany ty_TooMany s_TextError_TooMany | 5, e => by cases e; exact PySem.W.exm_ref ex_TooMany hd_TooMany ty_TooMany s_LogError_TooMany | 6, e => by cases e; exact PySem.W.exm_ref ex_TooMany hd_TooMany ty_TooMany s_CommandError_TooMany | m + 7, e => by cases e
  have cc_PaperError : Catches K [⟨C_ArgumentError, ["reason"]⟩, ⟨C_CheckError, ["reason"]⟩, ⟨C_PaperError, ["reason"]⟩, ⟨C_TooMany, ["reason"]⟩, ⟨C_TextError, ["at"]⟩, ⟨C_LogError, ["number", "reason"]⟩, ⟨C_CommandError, ["line"]⟩] (.ref C_PaperError) [2] := fun m C nm e => match m, e with | 0, e => by cases e; exact PySem.W.exm_ref ex_PaperError hd_PaperError ty_PaperError s_ArgumentError_PaperError | 1, e => by cases e; exact PySem.W.exm_ref ex_PaperError hd_PaperError ty_PaperError s_CheckError_PaperError | 2, e => by cases e; exact PySem.W.exm_ref ex_PaperError hd_PaperError ty_PaperError s_PaperError_PaperError | 3, e => by cases e; exact PySem.W.exm_ref ex_PaperError hd_PaperError ty_PaperError s_TooMany_PaperError | 4, e => by cases e; exact PySem.W.exm_ref ex_PaperError hd_PaperError ty_PaperError s_TextError_PaperError | 5, e => by cases e; exact PySem.W.exm_ref ex_PaperError hd_PaperError ty_PaperError s_LogError_PaperError | 6, e => by cases e; exact PySem.W.exm_ref ex_PaperError hd_PaperError ty_PaperError s_CommandError_PaperError | m + 7, e => by cases e
  have cc_ArgumentError : Catches K [⟨C_ArgumentError, ["reason"]⟩, ⟨C_CheckError, ["reason"]⟩, ⟨C_PaperError, ["reason"]⟩, ⟨C_TooMany, ["reason"]⟩, ⟨C_TextError, ["at"]⟩, ⟨C_LogError, ["number", "reason"]⟩, ⟨C_CommandError, ["line"]⟩] (.ref C_ArgumentError) [0] := fun m C nm e => match m, e with | 0, e => by cases e; exact PySem.W.exm_ref ex_ArgumentError hd_ArgumentError ty_ArgumentError s_ArgumentError_ArgumentError | 1, e => by cases e; exact PySem.W.exm_ref ex_ArgumentError hd_ArgumentError ty_ArgumentError s_CheckError_ArgumentError | 2, e => by cases e; exact PySem.W.exm_ref ex_ArgumentError hd_ArgumentError ty_ArgumentError s_PaperError_ArgumentError | 3, e => by cases e; exact PySem.W.exm_ref ex_ArgumentError hd_ArgumentError ty_ArgumentError s_TooMany_ArgumentError | 4, e => by cases e; exact PySem.W.exm_ref ex_ArgumentError hd_ArgumentError ty_ArgumentError s_TextError_ArgumentError | 5, e => by cases e; exact PySem.W.exm_ref ex_ArgumentError hd_ArgumentError ty_ArgumentError s_LogError_ArgumentError | 6, e => by cases e; exact PySem.W.exm_ref ex_ArgumentError hd_ArgumentError ty_ArgumentError s_CommandError_ArgumentError | m + 7, e => by cases e
  have x_line : XatOk K [⟨C_ArgumentError, ["reason"]⟩, ⟨C_CheckError, ["reason"]⟩, ⟨C_PaperError, ["reason"]⟩, ⟨C_TooMany, ["reason"]⟩, ⟨C_TextError, ["at"]⟩, ⟨C_LogError, ["number", "reason"]⟩, ⟨C_CommandError, ["line"]⟩] "line" := ⟨fun m C nm e => match m, e with | 0, e => by cases e; exact ⟨xf_ArgumentError, fun z => absurd z (by decide)⟩ | 1, e => by cases e; exact ⟨xf_CheckError, fun z => absurd z (by decide)⟩ | 2, e => by cases e; exact ⟨xf_PaperError, fun z => absurd z (by decide)⟩ | 3, e => by cases e; exact ⟨xf_TooMany, fun z => absurd z (by decide)⟩ | 4, e => by cases e; exact ⟨xf_TextError, fun z => absurd z (by decide)⟩ | 5, e => by cases e; exact ⟨xf_LogError, fun z => absurd z (by decide)⟩ | 6, e => by cases e; exact ⟨xf_CommandError, fun _ => no_CommandError⟩ | m + 7, e => by cases e⟩
  have x_reason : XatOk K [⟨C_ArgumentError, ["reason"]⟩, ⟨C_CheckError, ["reason"]⟩, ⟨C_PaperError, ["reason"]⟩, ⟨C_TooMany, ["reason"]⟩, ⟨C_TextError, ["at"]⟩, ⟨C_LogError, ["number", "reason"]⟩, ⟨C_CommandError, ["line"]⟩] "reason" := ⟨fun m C nm e => match m, e with | 0, e => by cases e; exact ⟨xf_ArgumentError, fun _ => no_ArgumentError⟩ | 1, e => by cases e; exact ⟨xf_CheckError, fun _ => no_CheckError⟩ | 2, e => by cases e; exact ⟨xf_PaperError, fun _ => no_PaperError⟩ | 3, e => by cases e; exact ⟨xf_TooMany, fun _ => no_TooMany⟩ | 4, e => by cases e; exact ⟨xf_TextError, fun z => absurd z (by decide)⟩ | 5, e => by cases e; exact ⟨xf_LogError, fun _ => n2_LogError⟩ | 6, e => by cases e; exact ⟨xf_CommandError, fun z => absurd z (by decide)⟩ | m + 7, e => by cases e⟩
  have x_number : XatOk K [⟨C_ArgumentError, ["reason"]⟩, ⟨C_CheckError, ["reason"]⟩, ⟨C_PaperError, ["reason"]⟩, ⟨C_TooMany, ["reason"]⟩, ⟨C_TextError, ["at"]⟩, ⟨C_LogError, ["number", "reason"]⟩, ⟨C_CommandError, ["line"]⟩] "number" := ⟨fun m C nm e => match m, e with | 0, e => by cases e; exact ⟨xf_ArgumentError, fun z => absurd z (by decide)⟩ | 1, e => by cases e; exact ⟨xf_CheckError, fun z => absurd z (by decide)⟩ | 2, e => by cases e; exact ⟨xf_PaperError, fun z => absurd z (by decide)⟩ | 3, e => by cases e; exact ⟨xf_TooMany, fun z => absurd z (by decide)⟩ | 4, e => by cases e; exact ⟨xf_TextError, fun z => absurd z (by decide)⟩ | 5, e => by cases e; exact ⟨xf_LogError, fun _ => no_LogError⟩ | 6, e => by cases e; exact ⟨xf_CommandError, fun z => absurd z (by decide)⟩ | m + 7, e => by cases e⟩
  have x_at : XatOk K [⟨C_ArgumentError, ["reason"]⟩, ⟨C_CheckError, ["reason"]⟩, ⟨C_PaperError, ["reason"]⟩, ⟨C_TooMany, ["reason"]⟩, ⟨C_TextError, ["at"]⟩, ⟨C_LogError, ["number", "reason"]⟩, ⟨C_CommandError, ["line"]⟩] "at" := ⟨fun m C nm e => match m, e with | 0, e => by cases e; exact ⟨xf_ArgumentError, fun z => absurd z (by decide)⟩ | 1, e => by cases e; exact ⟨xf_CheckError, fun z => absurd z (by decide)⟩ | 2, e => by cases e; exact ⟨xf_PaperError, fun z => absurd z (by decide)⟩ | 3, e => by cases e; exact ⟨xf_TooMany, fun z => absurd z (by decide)⟩ | 4, e => by cases e; exact ⟨xf_TextError, fun _ => no_TextError⟩ | 5, e => by cases e; exact ⟨xf_LogError, fun z => absurd z (by decide)⟩ | 6, e => by cases e; exact ⟨xf_CommandError, fun z => absurd z (by decide)⟩ | m + 7, e => by cases e⟩
  have x_isk : XisK K := ⟨nk, tk⟩
  have xi_CheckError : ∀ (m : Nat) (C : Addr) (ns : List Str), ([⟨C_ArgumentError, ["reason"]⟩, ⟨C_CheckError, ["reason"]⟩, ⟨C_PaperError, ["reason"]⟩, ⟨C_TooMany, ["reason"]⟩, ⟨C_TextError, ["at"]⟩, ⟨C_LogError, ["number", "reason"]⟩, ⟨C_CommandError, ["line"]⟩] : List XC)[m]? = some ⟨C, ns⟩ → XisOk K C ∧ PySem.W.kitOne K (.ref C) (.ref C_CheckError) = some (decide (m ∈ ([1] : List Nat))) := fun m C nm e => match m, e with | 0, e => by cases e; exact ⟨⟨xf_ArgumentError, by rw [cx_ArgumentError]; rfl, cs_ArgumentError, mo_ArgumentError⟩, kit_dn e_ArgumentError_CheckError cq_CheckError ty_CheckError i_ArgumentError_CheckError⟩ | 1, e => by cases e; exact ⟨⟨xf_CheckError, by rw [cx_CheckError]; rfl, cs_CheckError, mo_CheckError⟩, kit_up cq_CheckError ty_CheckError i_CheckError_CheckError⟩ | 2, e => by cases e; exact ⟨⟨xf_PaperError, by rw [cx_PaperError]; rfl, cs_PaperError, mo_PaperError⟩, kit_dn e_PaperError_CheckError cq_CheckError ty_CheckError i_PaperError_CheckError⟩ | 3, e => by cases e; exact ⟨⟨xf_TooMany, by rw [cx_TooMany]; rfl, cs_TooMany, mo_TooMany⟩, kit_dn e_TooMany_CheckError cq_CheckError ty_CheckError i_TooMany_CheckError⟩ | 4, e => by cases e; exact ⟨⟨xf_TextError, by rw [cx_TextError]; rfl, cs_TextError, mo_TextError⟩, kit_dn e_TextError_CheckError cq_CheckError ty_CheckError i_TextError_CheckError⟩ | 5, e => by cases e; exact ⟨⟨xf_LogError, by rw [cx_LogError]; rfl, cs_LogError, mo_LogError⟩, kit_dn e_LogError_CheckError cq_CheckError ty_CheckError i_LogError_CheckError⟩ | 6, e => by cases e; exact ⟨⟨xf_CommandError, by rw [cx_CommandError]; rfl, cs_CommandError, mo_CommandError⟩, kit_dn e_CommandError_CheckError cq_CheckError ty_CheckError i_CommandError_CheckError⟩ | m + 7, e => by cases e
  have xi_TooMany : ∀ (m : Nat) (C : Addr) (ns : List Str), ([⟨C_ArgumentError, ["reason"]⟩, ⟨C_CheckError, ["reason"]⟩, ⟨C_PaperError, ["reason"]⟩, ⟨C_TooMany, ["reason"]⟩, ⟨C_TextError, ["at"]⟩, ⟨C_LogError, ["number", "reason"]⟩, ⟨C_CommandError, ["line"]⟩] : List XC)[m]? = some ⟨C, ns⟩ → XisOk K C ∧ PySem.W.kitOne K (.ref C) (.ref C_TooMany) = some (decide (m ∈ ([3] : List Nat))) := fun m C nm e => match m, e with | 0, e => by cases e; exact ⟨⟨xf_ArgumentError, by rw [cx_ArgumentError]; rfl, cs_ArgumentError, mo_ArgumentError⟩, kit_dn e_ArgumentError_TooMany cq_TooMany ty_TooMany i_ArgumentError_TooMany⟩ | 1, e => by cases e; exact ⟨⟨xf_CheckError, by rw [cx_CheckError]; rfl, cs_CheckError, mo_CheckError⟩, kit_dn e_CheckError_TooMany cq_TooMany ty_TooMany i_CheckError_TooMany⟩ | 2, e => by cases e; exact ⟨⟨xf_PaperError, by rw [cx_PaperError]; rfl, cs_PaperError, mo_PaperError⟩, kit_dn e_PaperError_TooMany cq_TooMany ty_TooMany i_PaperError_TooMany⟩ | 3, e => by cases e; exact ⟨⟨xf_TooMany, by rw [cx_TooMany]; rfl, cs_TooMany, mo_TooMany⟩, kit_up cq_TooMany ty_TooMany i_TooMany_TooMany⟩ | 4, e => by cases e; exact ⟨⟨xf_TextError, by rw [cx_TextError]; rfl, cs_TextError, mo_TextError⟩, kit_dn e_TextError_TooMany cq_TooMany ty_TooMany i_TextError_TooMany⟩ | 5, e => by cases e; exact ⟨⟨xf_LogError, by rw [cx_LogError]; rfl, cs_LogError, mo_LogError⟩, kit_dn e_LogError_TooMany cq_TooMany ty_TooMany i_LogError_TooMany⟩ | 6, e => by cases e; exact ⟨⟨xf_CommandError, by rw [cx_CommandError]; rfl, cs_CommandError, mo_CommandError⟩, kit_dn e_CommandError_TooMany cq_TooMany ty_TooMany i_CommandError_TooMany⟩ | m + 7, e => by cases e
  have xi_PaperError : ∀ (m : Nat) (C : Addr) (ns : List Str), ([⟨C_ArgumentError, ["reason"]⟩, ⟨C_CheckError, ["reason"]⟩, ⟨C_PaperError, ["reason"]⟩, ⟨C_TooMany, ["reason"]⟩, ⟨C_TextError, ["at"]⟩, ⟨C_LogError, ["number", "reason"]⟩, ⟨C_CommandError, ["line"]⟩] : List XC)[m]? = some ⟨C, ns⟩ → XisOk K C ∧ PySem.W.kitOne K (.ref C) (.ref C_PaperError) = some (decide (m ∈ ([2] : List Nat))) := fun m C nm e => match m, e with | 0, e => by cases e; exact ⟨⟨xf_ArgumentError, by rw [cx_ArgumentError]; rfl, cs_ArgumentError, mo_ArgumentError⟩, kit_dn e_ArgumentError_PaperError cq_PaperError ty_PaperError i_ArgumentError_PaperError⟩ | 1, e => by cases e; exact ⟨⟨xf_CheckError, by rw [cx_CheckError]; rfl, cs_CheckError, mo_CheckError⟩, kit_dn e_CheckError_PaperError cq_PaperError ty_PaperError i_CheckError_PaperError⟩ | 2, e => by cases e; exact ⟨⟨xf_PaperError, by rw [cx_PaperError]; rfl, cs_PaperError, mo_PaperError⟩, kit_up cq_PaperError ty_PaperError i_PaperError_PaperError⟩ | 3, e => by cases e; exact ⟨⟨xf_TooMany, by rw [cx_TooMany]; rfl, cs_TooMany, mo_TooMany⟩, kit_dn e_TooMany_PaperError cq_PaperError ty_PaperError i_TooMany_PaperError⟩ | 4, e => by cases e; exact ⟨⟨xf_TextError, by rw [cx_TextError]; rfl, cs_TextError, mo_TextError⟩, kit_dn e_TextError_PaperError cq_PaperError ty_PaperError i_TextError_PaperError⟩ | 5, e => by cases e; exact ⟨⟨xf_LogError, by rw [cx_LogError]; rfl, cs_LogError, mo_LogError⟩, kit_dn e_LogError_PaperError cq_PaperError ty_PaperError i_LogError_PaperError⟩ | 6, e => by cases e; exact ⟨⟨xf_CommandError, by rw [cx_CommandError]; rfl, cs_CommandError, mo_CommandError⟩, kit_dn e_CommandError_PaperError cq_PaperError ty_PaperError i_CommandError_PaperError⟩ | m + 7, e => by cases e
  have xi_ArgumentError : ∀ (m : Nat) (C : Addr) (ns : List Str), ([⟨C_ArgumentError, ["reason"]⟩, ⟨C_CheckError, ["reason"]⟩, ⟨C_PaperError, ["reason"]⟩, ⟨C_TooMany, ["reason"]⟩, ⟨C_TextError, ["at"]⟩, ⟨C_LogError, ["number", "reason"]⟩, ⟨C_CommandError, ["line"]⟩] : List XC)[m]? = some ⟨C, ns⟩ → XisOk K C ∧ PySem.W.kitOne K (.ref C) (.ref C_ArgumentError) = some (decide (m ∈ ([0] : List Nat))) := fun m C nm e => match m, e with | 0, e => by cases e; exact ⟨⟨xf_ArgumentError, by rw [cx_ArgumentError]; rfl, cs_ArgumentError, mo_ArgumentError⟩, kit_up cq_ArgumentError ty_ArgumentError i_ArgumentError_ArgumentError⟩ | 1, e => by cases e; exact ⟨⟨xf_CheckError, by rw [cx_CheckError]; rfl, cs_CheckError, mo_CheckError⟩, kit_dn e_CheckError_ArgumentError cq_ArgumentError ty_ArgumentError i_CheckError_ArgumentError⟩ | 2, e => by cases e; exact ⟨⟨xf_PaperError, by rw [cx_PaperError]; rfl, cs_PaperError, mo_PaperError⟩, kit_dn e_PaperError_ArgumentError cq_ArgumentError ty_ArgumentError i_PaperError_ArgumentError⟩ | 3, e => by cases e; exact ⟨⟨xf_TooMany, by rw [cx_TooMany]; rfl, cs_TooMany, mo_TooMany⟩, kit_dn e_TooMany_ArgumentError cq_ArgumentError ty_ArgumentError i_TooMany_ArgumentError⟩ | 4, e => by cases e; exact ⟨⟨xf_TextError, by rw [cx_TextError]; rfl, cs_TextError, mo_TextError⟩, kit_dn e_TextError_ArgumentError cq_ArgumentError ty_ArgumentError i_TextError_ArgumentError⟩ | 5, e => by cases e; exact ⟨⟨xf_LogError, by rw [cx_LogError]; rfl, cs_LogError, mo_LogError⟩, kit_dn e_LogError_ArgumentError cq_ArgumentError ty_ArgumentError i_LogError_ArgumentError⟩ | 6, e => by cases e; exact ⟨⟨xf_CommandError, by rw [cx_CommandError]; rfl, cs_CommandError, mo_CommandError⟩, kit_dn e_CommandError_ArgumentError cq_ArgumentError ty_ArgumentError i_CommandError_ArgumentError⟩ | m + 7, e => by cases e
  have xi_CommandError : ∀ (m : Nat) (C : Addr) (ns : List Str), ([⟨C_ArgumentError, ["reason"]⟩, ⟨C_CheckError, ["reason"]⟩, ⟨C_PaperError, ["reason"]⟩, ⟨C_TooMany, ["reason"]⟩, ⟨C_TextError, ["at"]⟩, ⟨C_LogError, ["number", "reason"]⟩, ⟨C_CommandError, ["line"]⟩] : List XC)[m]? = some ⟨C, ns⟩ → XisOk K C ∧ PySem.W.kitOne K (.ref C) (.ref C_CommandError) = some (decide (m ∈ ([6] : List Nat))) := fun m C nm e => match m, e with | 0, e => by cases e; exact ⟨⟨xf_ArgumentError, by rw [cx_ArgumentError]; rfl, cs_ArgumentError, mo_ArgumentError⟩, kit_dn e_ArgumentError_CommandError cq_CommandError ty_CommandError i_ArgumentError_CommandError⟩ | 1, e => by cases e; exact ⟨⟨xf_CheckError, by rw [cx_CheckError]; rfl, cs_CheckError, mo_CheckError⟩, kit_dn e_CheckError_CommandError cq_CommandError ty_CommandError i_CheckError_CommandError⟩ | 2, e => by cases e; exact ⟨⟨xf_PaperError, by rw [cx_PaperError]; rfl, cs_PaperError, mo_PaperError⟩, kit_dn e_PaperError_CommandError cq_CommandError ty_CommandError i_PaperError_CommandError⟩ | 3, e => by cases e; exact ⟨⟨xf_TooMany, by rw [cx_TooMany]; rfl, cs_TooMany, mo_TooMany⟩, kit_dn e_TooMany_CommandError cq_CommandError ty_CommandError i_TooMany_CommandError⟩ | 4, e => by cases e; exact ⟨⟨xf_TextError, by rw [cx_TextError]; rfl, cs_TextError, mo_TextError⟩, kit_dn e_TextError_CommandError cq_CommandError ty_CommandError i_TextError_CommandError⟩ | 5, e => by cases e; exact ⟨⟨xf_LogError, by rw [cx_LogError]; rfl, cs_LogError, mo_LogError⟩, kit_dn e_LogError_CommandError cq_CommandError ty_CommandError i_LogError_CommandError⟩ | 6, e => by cases e; exact ⟨⟨xf_CommandError, by rw [cx_CommandError]; rfl, cs_CommandError, mo_CommandError⟩, kit_up cq_CommandError ty_CommandError i_CommandError_CommandError⟩ | m + 7, e => by cases e
  have xi_LogError : ∀ (m : Nat) (C : Addr) (ns : List Str), ([⟨C_ArgumentError, ["reason"]⟩, ⟨C_CheckError, ["reason"]⟩, ⟨C_PaperError, ["reason"]⟩, ⟨C_TooMany, ["reason"]⟩, ⟨C_TextError, ["at"]⟩, ⟨C_LogError, ["number", "reason"]⟩, ⟨C_CommandError, ["line"]⟩] : List XC)[m]? = some ⟨C, ns⟩ → XisOk K C ∧ PySem.W.kitOne K (.ref C) (.ref C_LogError) = some (decide (m ∈ ([5] : List Nat))) := fun m C nm e => match m, e with | 0, e => by cases e; exact ⟨⟨xf_ArgumentError, by rw [cx_ArgumentError]; rfl, cs_ArgumentError, mo_ArgumentError⟩, kit_dn e_ArgumentError_LogError cq_LogError ty_LogError i_ArgumentError_LogError⟩ | 1, e => by cases e; exact ⟨⟨xf_CheckError, by rw [cx_CheckError]; rfl, cs_CheckError, mo_CheckError⟩, kit_dn e_CheckError_LogError cq_LogError ty_LogError i_CheckError_LogError⟩ | 2, e => by cases e; exact ⟨⟨xf_PaperError, by rw [cx_PaperError]; rfl, cs_PaperError, mo_PaperError⟩, kit_dn e_PaperError_LogError cq_LogError ty_LogError i_PaperError_LogError⟩ | 3, e => by cases e; exact ⟨⟨xf_TooMany, by rw [cx_TooMany]; rfl, cs_TooMany, mo_TooMany⟩, kit_dn e_TooMany_LogError cq_LogError ty_LogError i_TooMany_LogError⟩ | 4, e => by cases e; exact ⟨⟨xf_TextError, by rw [cx_TextError]; rfl, cs_TextError, mo_TextError⟩, kit_dn e_TextError_LogError cq_LogError ty_LogError i_TextError_LogError⟩ | 5, e => by cases e; exact ⟨⟨xf_LogError, by rw [cx_LogError]; rfl, cs_LogError, mo_LogError⟩, kit_up cq_LogError ty_LogError i_LogError_LogError⟩ | 6, e => by cases e; exact ⟨⟨xf_CommandError, by rw [cx_CommandError]; rfl, cs_CommandError, mo_CommandError⟩, kit_dn e_CommandError_LogError cq_LogError ty_LogError i_CommandError_LogError⟩ | m + 7, e => by cases e
  have xi_TextError : ∀ (m : Nat) (C : Addr) (ns : List Str), ([⟨C_ArgumentError, ["reason"]⟩, ⟨C_CheckError, ["reason"]⟩, ⟨C_PaperError, ["reason"]⟩, ⟨C_TooMany, ["reason"]⟩, ⟨C_TextError, ["at"]⟩, ⟨C_LogError, ["number", "reason"]⟩, ⟨C_CommandError, ["line"]⟩] : List XC)[m]? = some ⟨C, ns⟩ → XisOk K C ∧ PySem.W.kitOne K (.ref C) (.ref C_TextError) = some (decide (m ∈ ([4] : List Nat))) := fun m C nm e => match m, e with | 0, e => by cases e; exact ⟨⟨xf_ArgumentError, by rw [cx_ArgumentError]; rfl, cs_ArgumentError, mo_ArgumentError⟩, kit_dn e_ArgumentError_TextError cq_TextError ty_TextError i_ArgumentError_TextError⟩ | 1, e => by cases e; exact ⟨⟨xf_CheckError, by rw [cx_CheckError]; rfl, cs_CheckError, mo_CheckError⟩, kit_dn e_CheckError_TextError cq_TextError ty_TextError i_CheckError_TextError⟩ | 2, e => by cases e; exact ⟨⟨xf_PaperError, by rw [cx_PaperError]; rfl, cs_PaperError, mo_PaperError⟩, kit_dn e_PaperError_TextError cq_TextError ty_TextError i_PaperError_TextError⟩ | 3, e => by cases e; exact ⟨⟨xf_TooMany, by rw [cx_TooMany]; rfl, cs_TooMany, mo_TooMany⟩, kit_dn e_TooMany_TextError cq_TextError ty_TextError i_TooMany_TextError⟩ | 4, e => by cases e; exact ⟨⟨xf_TextError, by rw [cx_TextError]; rfl, cs_TextError, mo_TextError⟩, kit_up cq_TextError ty_TextError i_TextError_TextError⟩ | 5, e => by cases e; exact ⟨⟨xf_LogError, by rw [cx_LogError]; rfl, cs_LogError, mo_LogError⟩, kit_dn e_LogError_TextError cq_TextError ty_TextError i_LogError_TextError⟩ | 6, e => by cases e; exact ⟨⟨xf_CommandError, by rw [cx_CommandError]; rfl, cs_CommandError, mo_CommandError⟩, kit_dn e_CommandError_TextError cq_TextError ty_TextError i_CommandError_TextError⟩ | m + 7, e => by cases e
  have xi_ValueError : ∀ (m : Nat) (C : Addr) (ns : List Str), ([⟨C_ArgumentError, ["reason"]⟩, ⟨C_CheckError, ["reason"]⟩, ⟨C_PaperError, ["reason"]⟩, ⟨C_TooMany, ["reason"]⟩, ⟨C_TextError, ["at"]⟩, ⟨C_LogError, ["number", "reason"]⟩, ⟨C_CommandError, ["line"]⟩] : List XC)[m]? = some ⟨C, ns⟩ → XisOk K C ∧ PySem.W.kitOne K (.ref C) (.type "ValueError") = some (decide (m ∈ ([0, 1, 2, 3, 4, 5, 6] : List Nat))) := fun m C nm e => match m, e with | 0, e => by cases e; exact ⟨⟨xf_ArgumentError, by rw [cx_ArgumentError]; rfl, cs_ArgumentError, mo_ArgumentError⟩, kit_upT km_VE i_ArgumentError_ValueError⟩ | 1, e => by cases e; exact ⟨⟨xf_CheckError, by rw [cx_CheckError]; rfl, cs_CheckError, mo_CheckError⟩, kit_upT km_VE i_CheckError_ValueError⟩ | 2, e => by cases e; exact ⟨⟨xf_PaperError, by rw [cx_PaperError]; rfl, cs_PaperError, mo_PaperError⟩, kit_upT km_VE i_PaperError_ValueError⟩ | 3, e => by cases e; exact ⟨⟨xf_TooMany, by rw [cx_TooMany]; rfl, cs_TooMany, mo_TooMany⟩, kit_upT km_VE i_TooMany_ValueError⟩ | 4, e => by cases e; exact ⟨⟨xf_TextError, by rw [cx_TextError]; rfl, cs_TextError, mo_TextError⟩, kit_upT km_VE i_TextError_ValueError⟩ | 5, e => by cases e; exact ⟨⟨xf_LogError, by rw [cx_LogError]; rfl, cs_LogError, mo_LogError⟩, kit_upT km_VE i_LogError_ValueError⟩ | 6, e => by cases e; exact ⟨⟨xf_CommandError, by rw [cx_CommandError]; rfl, cs_CommandError, mo_CommandError⟩, kit_upT km_VE i_CommandError_ValueError⟩ | m + 7, e => by cases e
  cases hfa.symm.trans M30
  refine ⟨PySem.W.fnOf "law" "law" (defArgs (topS 30)) (defBody (topS 30)) (defScope (topS 30)) .none kV30 dc30 pm30 an30 cd30 ct30, [⟨C_ArgumentError, ["reason"]⟩, ⟨C_CheckError, ["reason"]⟩, ⟨C_PaperError, ["reason"]⟩, ⟨C_TooMany, ["reason"]⟩, ⟨C_TextError, ["at"]⟩, ⟨C_LogError, ["number", "reason"]⟩, ⟨C_CommandError, ["line"]⟩], fun s v => .of_eq rfl, fun base _ _ => ?_⟩
  have N__law_draws : ∀ C : Option Addr, Kn PySem.Challenge.pw_leastawry_k00_errors_and_limits w K mg base C [⟨C_ArgumentError, ["reason"]⟩, ⟨C_CheckError, ["reason"]⟩, ⟨C_PaperError, ["reason"]⟩, ⟨C_TooMany, ["reason"]⟩, ⟨C_TextError, ["at"]⟩, ⟨C_LogError, ["number", "reason"]⟩, ⟨C_CommandError, ["line"]⟩] "_law_draws" 1 1 m__law_draws := fun C => kn__law_draws (F_ := F21) (h_ := M21) (z_abs := z_abs) (z_range := z_range) (z_int := z_int)
  have N__law_more : ∀ C : Option Addr, Kn PySem.Challenge.pw_leastawry_k00_errors_and_limits w K mg base C [⟨C_ArgumentError, ["reason"]⟩, ⟨C_CheckError, ["reason"]⟩, ⟨C_PaperError, ["reason"]⟩, ⟨C_TooMany, ["reason"]⟩, ⟨C_TextError, ["at"]⟩, ⟨C_LogError, ["number", "reason"]⟩, ⟨C_CommandError, ["line"]⟩] "_law_more" 1 2 m__law_more := fun C => kn__law_more (F_ := F22) (h_ := M22) (z_len := z_len) (z_int := z_int) (z_range := z_range)
  have N__law_take : ∀ C : Option Addr, Kn PySem.Challenge.pw_leastawry_k00_errors_and_limits w K mg base C [⟨C_ArgumentError, ["reason"]⟩, ⟨C_CheckError, ["reason"]⟩, ⟨C_PaperError, ["reason"]⟩, ⟨C_TooMany, ["reason"]⟩, ⟨C_TextError, ["at"]⟩, ⟨C_LogError, ["number", "reason"]⟩, ⟨C_CommandError, ["line"]⟩] "_law_take" 2 3 m__law_take := fun C => kn__law_take (F_ := F23) (h_ := M23) (G__law_more := N__law_more _) (z_len := z_len) (z_int := z_int)
  have N__law_one : ∀ C : Option Addr, Kn PySem.Challenge.pw_leastawry_k00_errors_and_limits w K mg base C [⟨C_ArgumentError, ["reason"]⟩, ⟨C_CheckError, ["reason"]⟩, ⟨C_PaperError, ["reason"]⟩, ⟨C_TooMany, ["reason"]⟩, ⟨C_TextError, ["at"]⟩, ⟨C_LogError, ["number", "reason"]⟩, ⟨C_CommandError, ["line"]⟩] "_law_one" 3 3 m__law_one := fun C => kn__law_one (F_ := F24) (h_ := M24) (G__law_take := N__law_take _) (z_len := z_len)
  have N__law_limits_right : ∀ C : Option Addr, Kn PySem.Challenge.pw_leastawry_k00_errors_and_limits w K mg base C [⟨C_ArgumentError, ["reason"]⟩, ⟨C_CheckError, ["reason"]⟩, ⟨C_PaperError, ["reason"]⟩, ⟨C_TooMany, ["reason"]⟩, ⟨C_TextError, ["at"]⟩, ⟨C_LogError, ["number", "reason"]⟩, ⟨C_CommandError, ["line"]⟩] "_law_limits_right" 1 0 m__law_limits_right := fun C => kn__law_limits_right (F_ := F25) (h_ := M25) (z_repr := z_repr) (c_MAX_LINES := c_MAX_LINES) (c_MAX_TRIED := c_MAX_TRIED) (c_MAX_TEXT := c_MAX_TEXT) (c_MAX_TERMS := c_MAX_TERMS) (c_MAX_ROWS := c_MAX_ROWS) (c_MAX_SETTINGS := c_MAX_SETTINGS) (c_MAX_COLUMNS := c_MAX_COLUMNS) (c_MAX_UNITS := c_MAX_UNITS) (c_MAX_NAME := c_MAX_NAME) (c_MAX_PART := c_MAX_PART)
  have N__law_raise : ∀ C : Option Addr, Kn PySem.Challenge.pw_leastawry_k00_errors_and_limits w K mg base C [⟨C_ArgumentError, ["reason"]⟩, ⟨C_CheckError, ["reason"]⟩, ⟨C_PaperError, ["reason"]⟩, ⟨C_TooMany, ["reason"]⟩, ⟨C_TextError, ["at"]⟩, ⟨C_LogError, ["number", "reason"]⟩, ⟨C_CommandError, ["line"]⟩] "_law_raise" 1 3 m__law_raise := fun C => kn__law_raise (F_ := F26) (h_ := M26) (t_ArgumentError := t_ArgumentError) (t_PaperError := t_PaperError) (t_TooMany := t_TooMany) (t_CheckError := t_CheckError) (t_TextError := t_TextError) (t_LogError := t_LogError) (t_CommandError := t_CommandError)
  have N__law_kinds : ∀ C : Option Addr, KnX PySem.Challenge.pw_leastawry_k00_errors_and_limits w K mg base C [⟨C_ArgumentError, ["reason"]⟩, ⟨C_CheckError, ["reason"]⟩, ⟨C_PaperError, ["reason"]⟩, ⟨C_TooMany, ["reason"]⟩, ⟨C_TextError, ["at"]⟩, ⟨C_LogError, ["number", "reason"]⟩, ⟨C_CommandError, ["line"]⟩] "_law_kinds" 1 m__law_kinds := fun C => kn__law_kinds (F_ := F27) (h_ := M27) (z_isinstance := z_isinstance) (c_CheckError := c_CheckError) (c_TooMany := c_TooMany) (c_PaperError := c_PaperError) (c_ArgumentError := c_ArgumentError) (c_CommandError := c_CommandError) (c_LogError := c_LogError) (c_TextError := c_TextError) (xi_CheckError := xi_CheckError) (xi_TooMany := xi_TooMany) (xi_PaperError := xi_PaperError) (xi_ArgumentError := xi_ArgumentError) (xi_CommandError := xi_CommandError) (xi_LogError := xi_LogError) (xi_TextError := xi_TextError) (x_isk := x_isk)
  have N__law_caught : ∀ C : Option Addr, Kn PySem.Challenge.pw_leastawry_k00_errors_and_limits w K mg base C [⟨C_ArgumentError, ["reason"]⟩, ⟨C_CheckError, ["reason"]⟩, ⟨C_PaperError, ["reason"]⟩, ⟨C_TooMany, ["reason"]⟩, ⟨C_TextError, ["at"]⟩, ⟨C_LogError, ["number", "reason"]⟩, ⟨C_CommandError, ["line"]⟩] "_law_caught" 2 3 m__law_caught := fun C => kn__law_caught (F_ := F28) (h_ := M28) (G__law_raise := N__law_raise _) (G__law_kinds := N__law_kinds _) (z_ValueError := z_ValueError) (z_isinstance := z_isinstance) (c_AwryError := c_AwryError) (cc_AwryError := cc_AwryError) (xi_ValueError := xi_ValueError) (x_isk := x_isk)
  have N__law_fields : ∀ C : Option Addr, Kn PySem.Challenge.pw_leastawry_k00_errors_and_limits w K mg base C [⟨C_ArgumentError, ["reason"]⟩, ⟨C_CheckError, ["reason"]⟩, ⟨C_PaperError, ["reason"]⟩, ⟨C_TooMany, ["reason"]⟩, ⟨C_TextError, ["at"]⟩, ⟨C_LogError, ["number", "reason"]⟩, ⟨C_CommandError, ["line"]⟩] "_law_fields" 2 3 m__law_fields := fun C => kn__law_fields (F_ := F29) (h_ := M29) (G__law_raise := N__law_raise _) (c_CommandError := c_CommandError) (c_LogError := c_LogError) (c_TextError := c_TextError) (c_CheckError := c_CheckError) (c_TooMany := c_TooMany) (c_PaperError := c_PaperError) (c_ArgumentError := c_ArgumentError) (cc_CommandError := cc_CommandError) (cc_LogError := cc_LogError) (cc_TextError := cc_TextError) (cc_CheckError := cc_CheckError) (cc_TooMany := cc_TooMany) (cc_PaperError := cc_PaperError) (cc_ArgumentError := cc_ArgumentError) (x_line := x_line) (x_reason := x_reason) (x_number := x_number) (x_at := x_at)
  exact fn_law (F_ := F30) (G__law_draws := N__law_draws) (G__law_limits_right := N__law_limits_right) (G__law_one := N__law_one) (G__law_caught := N__law_caught) (G__law_fields := N__law_fields) (z_range := z_range) (z_repr := z_repr)
end K00

open PySem PySem.W PyProof.Rows
set_option Elab.async false
set_option linter.all false
set_option maxRecDepth 100000
set_option pp.maxSteps 150
set_option maxHeartbeats 0 in
theorem PySem.Challenge.cw_leastawry_k00_errors_and_limits_holds : PySem.Challenge.rw_leastawry_k00_errors_and_limits.Holds := by
  w_on; o_law; k_head; (case hw => w_witness2)
  k_fill
  refine L2.DL.walk_dl (l := PySem.Challenge.rw_leastawry_k00_errors_and_limits) (n := 63) (k := 4) (x := "script") (m := K00.m_law) rfl (by decide) rfl ⟨rfl, by decide, by decide⟩ rfl (fun w h Y => PySem.W.kIn_of Y) ?F K00.law_true
  case F =>
    intro w mg fa h KX G hmg
    refine' K00.all_mk KX G hmg ?a21 ?l21 ?c21 ?k21 ?a22 ?l22 ?c22 ?k22 ?a23 ?l23 ?c23 ?k23 ?a24 ?l24 ?c24 ?k24 ?a25 ?l25 ?c25 ?k25 ?a26 ?l26 ?c26 ?k26 ?a27 ?l27 ?c27 ?k27 ?a28 ?l28 ?c28 ?k28 ?a29 ?l29 ?c29 ?k29 ?a30 ?l30 ?c30 ?k30 ?n_abs ?n_range ?n_int ?n_len ?n_repr ?n_isinstance ?n_ValueError ?a_MAX_LINES ?a_MAX_TRIED ?a_MAX_TEXT ?a_MAX_TERMS ?a_MAX_ROWS ?a_MAX_SETTINGS ?a_MAX_COLUMNS ?a_MAX_UNITS ?a_MAX_NAME ?a_MAX_PART ?tp ?n_super ?tops ?g_ArgumentError ?g_PaperError ?g_TooMany ?g_CheckError ?g_TextError ?g_LogError ?g_CommandError ?g_AwryError ?ex_ArgumentError ?hd_ArgumentError ?ty_ArgumentError ?ex_PaperError ?hd_PaperError ?ty_PaperError ?ex_TooMany ?hd_TooMany ?ty_TooMany ?ex_CheckError ?hd_CheckError ?ty_CheckError ?ex_TextError ?hd_TextError ?ty_TextError ?ex_LogError ?hd_LogError ?ty_LogError ?ex_CommandError ?hd_CommandError ?ty_CommandError ?ex_AwryError ?hd_AwryError ?ty_AwryError ?kl_ArgumentError ?rf_ArgumentError ?sa_ArgumentError ?ga_ArgumentError ?gg_ArgumentError ?no_ArgumentError ?in_ArgumentError ?tc_ArgumentError ?kc_ArgumentError ?ve_ArgumentError ?fn_ArgumentError ?co_ArgumentError ?cd_ArgumentError ?v2_ArgumentError ?fl_ArgumentError ?ce_ArgumentError ?cD_ArgumentError ?mr_ArgumentError ?su_ArgumentError ?li_ArgumentError ?kl_CheckError ?rf_CheckError ?sa_CheckError ?ga_CheckError ?gg_CheckError ?no_CheckError ?in_CheckError ?tc_CheckError ?kc_CheckError ?ve_CheckError ?fn_CheckError ?co_CheckError ?cd_CheckError ?v2_CheckError ?fl_CheckError ?ce_CheckError ?cD_CheckError ?mr_CheckError ?su_CheckError ?li_CheckError ?kl_PaperError ?rf_PaperError ?sa_PaperError ?ga_PaperError ?gg_PaperError ?no_PaperError ?in_PaperError ?tc_PaperError ?kc_PaperError ?ve_PaperError ?fn_PaperError ?co_PaperError ?cd_PaperError ?v2_PaperError ?fl_PaperError ?ce_PaperError ?cD_PaperError ?mr_PaperError ?su_PaperError ?li_PaperError ?kl_TooMany ?rf_TooMany ?sa_TooMany ?ga_TooMany ?gg_TooMany ?no_TooMany ?in_TooMany ?tc_TooMany ?kc_TooMany ?ve_TooMany ?fn_TooMany ?co_TooMany ?cd_TooMany ?v2_TooMany ?fl_TooMany ?ce_TooMany ?cD_TooMany ?mr_TooMany ?su_TooMany ?li_TooMany ?kl_TextError ?rf_TextError ?sa_TextError ?ga_TextError ?gg_TextError ?no_TextError ?in_TextError ?tc_TextError ?kc_TextError ?ve_TextError ?fn_TextError ?co_TextError ?cd_TextError ?v2_TextError ?fl_TextError ?ce_TextError ?cD_TextError ?mr_TextError ?su_TextError ?li_TextError ?n2_LogError ?kl_LogError ?rf_LogError ?sa_LogError ?ga_LogError ?gg_LogError ?no_LogError ?in_LogError ?tc_LogError ?kc_LogError ?ve_LogError ?fn_LogError ?co_LogError ?cd_LogError ?v2_LogError ?fl_LogError ?ce_LogError ?cD_LogError ?mr_LogError ?su_LogError ?li_LogError ?kl_CommandError ?rf_CommandError ?sa_CommandError ?ga_CommandError ?gg_CommandError ?no_CommandError ?in_CommandError ?tc_CommandError ?kc_CommandError ?ve_CommandError ?fn_CommandError ?co_CommandError ?cd_CommandError ?v2_CommandError ?fl_CommandError ?ce_CommandError ?cD_CommandError ?mr_CommandError ?su_CommandError ?li_CommandError ?s_ArgumentError_AwryError ?s_CheckError_AwryError ?s_PaperError_AwryError ?s_TooMany_AwryError ?s_TextError_AwryError ?s_LogError_AwryError ?s_CommandError_AwryError ?s_ArgumentError_CommandError ?s_CheckError_CommandError ?s_PaperError_CommandError ?s_TooMany_CommandError ?s_TextError_CommandError ?s_LogError_CommandError ?s_CommandError_CommandError ?s_ArgumentError_LogError ?s_CheckError_LogError ?s_PaperError_LogError ?s_TooMany_LogError ?s_TextError_LogError ?s_LogError_LogError ?s_CommandError_LogError ?s_ArgumentError_TextError ?s_CheckError_TextError ?s_PaperError_TextError ?s_TooMany_TextError ?s_TextError_TextError ?s_LogError_TextError ?s_CommandError_TextError ?s_ArgumentError_CheckError ?s_CheckError_CheckError ?s_PaperError_CheckError ?s_TooMany_CheckError ?s_TextError_CheckError ?s_LogError_CheckError ?s_CommandError_CheckError ?s_ArgumentError_TooMany ?s_CheckError_TooMany ?s_PaperError_TooMany ?s_TooMany_TooMany ?s_TextError_TooMany ?s_LogError_TooMany ?s_CommandError_TooMany ?s_ArgumentError_PaperError ?s_CheckError_PaperError ?s_PaperError_PaperError ?s_TooMany_PaperError ?s_TextError_PaperError ?s_LogError_PaperError ?s_CommandError_PaperError ?s_ArgumentError_ArgumentError ?s_CheckError_ArgumentError ?s_PaperError_ArgumentError ?s_TooMany_ArgumentError ?s_TextError_ArgumentError ?s_LogError_ArgumentError ?s_CommandError_ArgumentError ?nk ?tk ?cq_CheckError ?cx_ArgumentError ?cs_ArgumentError ?mo_ArgumentError ?i_ArgumentError_CheckError ?e_ArgumentError_CheckError ?cx_CheckError ?cs_CheckError ?mo_CheckError ?i_CheckError_CheckError ?cx_PaperError ?cs_PaperError ?mo_PaperError ?i_PaperError_CheckError ?e_PaperError_CheckError ?cx_TooMany ?cs_TooMany ?mo_TooMany ?i_TooMany_CheckError ?e_TooMany_CheckError ?cx_TextError ?cs_TextError ?mo_TextError ?i_TextError_CheckError ?e_TextError_CheckError ?cx_LogError ?cs_LogError ?mo_LogError ?i_LogError_CheckError ?e_LogError_CheckError ?cx_CommandError ?cs_CommandError ?mo_CommandError ?i_CommandError_CheckError ?e_CommandError_CheckError ?cq_TooMany ?i_ArgumentError_TooMany ?e_ArgumentError_TooMany ?i_CheckError_TooMany ?e_CheckError_TooMany ?i_PaperError_TooMany ?e_PaperError_TooMany ?i_TooMany_TooMany ?i_TextError_TooMany ?e_TextError_TooMany ?i_LogError_TooMany ?e_LogError_TooMany ?i_CommandError_TooMany ?e_CommandError_TooMany ?cq_PaperError ?i_ArgumentError_PaperError ?e_ArgumentError_PaperError ?i_CheckError_PaperError ?e_CheckError_PaperError ?i_PaperError_PaperError ?i_TooMany_PaperError ?e_TooMany_PaperError ?i_TextError_PaperError ?e_TextError_PaperError ?i_LogError_PaperError ?e_LogError_PaperError ?i_CommandError_PaperError ?e_CommandError_PaperError ?cq_ArgumentError ?i_ArgumentError_ArgumentError ?i_CheckError_ArgumentError ?e_CheckError_ArgumentError ?i_PaperError_ArgumentError ?e_PaperError_ArgumentError ?i_TooMany_ArgumentError ?e_TooMany_ArgumentError ?i_TextError_ArgumentError ?e_TextError_ArgumentError ?i_LogError_ArgumentError ?e_LogError_ArgumentError ?i_CommandError_ArgumentError ?e_CommandError_ArgumentError ?cq_CommandError ?i_ArgumentError_CommandError ?e_ArgumentError_CommandError ?i_CheckError_CommandError ?e_CheckError_CommandError ?i_PaperError_CommandError ?e_PaperError_CommandError ?i_TooMany_CommandError ?e_TooMany_CommandError ?i_TextError_CommandError ?e_TextError_CommandError ?i_LogError_CommandError ?e_LogError_CommandError ?i_CommandError_CommandError ?cq_LogError ?i_ArgumentError_LogError ?e_ArgumentError_LogError ?i_CheckError_LogError ?e_CheckError_LogError ?i_PaperError_LogError ?e_PaperError_LogError ?i_TooMany_LogError ?e_TooMany_LogError ?i_TextError_LogError ?e_TextError_LogError ?i_LogError_LogError ?i_CommandError_LogError ?e_CommandError_LogError ?cq_TextError ?i_ArgumentError_TextError ?e_ArgumentError_TextError ?i_CheckError_TextError ?e_CheckError_TextError ?i_PaperError_TextError ?e_PaperError_TextError ?i_TooMany_TextError ?e_TooMany_TextError ?i_TextError_TextError ?i_LogError_TextError ?e_LogError_TextError ?i_CommandError_TextError ?e_CommandError_TextError ?i_ArgumentError_ValueError ?i_CheckError_ValueError ?i_PaperError_ValueError ?i_TooMany_ValueError ?i_TextError_ValueError ?i_LogError_ValueError ?i_CommandError_ValueError
    (case a21 => k_is)
    (case l21 => k_is)
    (case c21 => k_is)
    (case k21 => k_is)
    (case a22 => k_is)
    (case l22 => k_is)
    (case c22 => k_is)
    (case k22 => k_is)
    (case a23 => k_is)
    (case l23 => k_is)
    (case c23 => k_is)
    (case k23 => k_is)
    (case a24 => k_is)
    (case l24 => k_is)
    (case c24 => k_is)
    (case k24 => k_is)
    (case a25 => k_is)
    (case l25 => k_is)
    (case c25 => k_is)
    (case k25 => k_is)
    (case a26 => k_is)
    (case l26 => k_is)
    (case c26 => k_is)
    (case k26 => k_is)
    (case a27 => k_is)
    (case l27 => k_is)
    (case c27 => k_is)
    (case k27 => k_is)
    (case a28 => k_is)
    (case l28 => k_is)
    (case c28 => k_is)
    (case k28 => k_is)
    (case a29 => k_is)
    (case l29 => k_is)
    (case c29 => k_is)
    (case k29 => k_is)
    (case a30 => k_is)
    (case l30 => k_is)
    (case c30 => k_is)
    (case k30 => k_is)
    (case n_abs => k_is)
    (case n_range => k_is)
    (case n_int => k_is)
    (case n_len => k_is)
    (case n_repr => k_is)
    (case n_isinstance => k_is)
    (case n_ValueError => k_is)
    (case a_MAX_LINES => k_is)
    (case a_MAX_TRIED => k_is)
    (case a_MAX_TEXT => k_is)
    (case a_MAX_TERMS => k_is)
    (case a_MAX_ROWS => k_is)
    (case a_MAX_SETTINGS => k_is)
    (case a_MAX_COLUMNS => k_is)
    (case a_MAX_UNITS => k_is)
    (case a_MAX_NAME => k_is)
    (case a_MAX_PART => k_is)
    (case tp => k_is)
    (case n_super => k_is)
    (case tops => rfl)
    (case g_ArgumentError => k_is)
    (case g_PaperError => k_is)
    (case g_TooMany => k_is)
    (case g_CheckError => k_is)
    (case g_TextError => k_is)
    (case g_LogError => k_is)
    (case g_CommandError => k_is)
    (case g_AwryError => k_is)
    (case ex_ArgumentError => k_is)
    (case hd_ArgumentError => k_is)
    (case ty_ArgumentError => k_is)
    (case ex_PaperError => k_is)
    (case hd_PaperError => k_is)
    (case ty_PaperError => k_is)
    (case ex_TooMany => k_is)
    (case hd_TooMany => k_is)
    (case ty_TooMany => k_is)
    (case ex_CheckError => k_is)
    (case hd_CheckError => k_is)
    (case ty_CheckError => k_is)
    (case ex_TextError => k_is)
    (case hd_TextError => k_is)
    (case ty_TextError => k_is)
    (case ex_LogError => k_is)
    (case hd_LogError => k_is)
    (case ty_LogError => k_is)
    (case ex_CommandError => k_is)
    (case hd_CommandError => k_is)
    (case ty_CommandError => k_is)
    (case ex_AwryError => k_is)
    (case hd_AwryError => k_is)
    (case ty_AwryError => k_is)
    (case kl_ArgumentError => k_is)
    (case rf_ArgumentError => decide +kernel)
    (case sa_ArgumentError => k_is)
    (case ga_ArgumentError => k_is)
    (case gg_ArgumentError => k_is)
    (case no_ArgumentError => k_is)
    (case in_ArgumentError => k_is)
    (case tc_ArgumentError => k_is)
    (case kc_ArgumentError => k_is)
    (case ve_ArgumentError => k_is)
    (case fn_ArgumentError => k_is)
    (case co_ArgumentError => k_is)
    (case cd_ArgumentError => k_is)
    (case v2_ArgumentError => rfl)
    (case fl_ArgumentError => decide +kernel)
    (case ce_ArgumentError => k_is)
    (case cD_ArgumentError => k_is)
    (case mr_ArgumentError => k_is)
    (case su_ArgumentError => ks_is)
    (case li_ArgumentError => rfl)
    (case kl_CheckError => k_is)
    (case rf_CheckError => decide +kernel)
    (case sa_CheckError => k_is)
    (case ga_CheckError => k_is)
    (case gg_CheckError => k_is)
    (case no_CheckError => k_is)
    (case in_CheckError => k_is)
    (case tc_CheckError => k_is)
    (case kc_CheckError => k_is)
    (case ve_CheckError => k_is)
    (case fn_CheckError => k_is)
    (case co_CheckError => k_is)
    (case cd_CheckError => k_is)
    (case v2_CheckError => rfl)
    (case fl_CheckError => decide +kernel)
    (case ce_CheckError => k_is)
    (case cD_CheckError => k_is)
    (case mr_CheckError => k_is)
    (case su_CheckError => ks_is)
    (case li_CheckError => rfl)
    (case kl_PaperError => k_is)
    (case rf_PaperError => decide +kernel)
    (case sa_PaperError => k_is)
    (case ga_PaperError => k_is)
    (case gg_PaperError => k_is)
    (case no_PaperError => k_is)
    (case in_PaperError => k_is)
    (case tc_PaperError => k_is)
    (case kc_PaperError => k_is)
    (case ve_PaperError => k_is)
    (case fn_PaperError => k_is)
    (case co_PaperError => k_is)
    (case cd_PaperError => k_is)
    (case v2_PaperError => rfl)
    (case fl_PaperError => decide +kernel)
    (case ce_PaperError => k_is)
    (case cD_PaperError => k_is)
    (case mr_PaperError => k_is)
    (case su_PaperError => ks_is)
    (case li_PaperError => rfl)
    (case kl_TooMany => k_is)
    (case rf_TooMany => decide +kernel)
    (case sa_TooMany => k_is)
    (case ga_TooMany => k_is)
    (case gg_TooMany => k_is)
    (case no_TooMany => k_is)
    (case in_TooMany => k_is)
    (case tc_TooMany => k_is)
    (case kc_TooMany => k_is)
    (case ve_TooMany => k_is)
    (case fn_TooMany => k_is)
    (case co_TooMany => k_is)
    (case cd_TooMany => k_is)
    (case v2_TooMany => rfl)
    (case fl_TooMany => decide +kernel)
    (case ce_TooMany => k_is)
    (case cD_TooMany => k_is)
    (case mr_TooMany => k_is)
    (case su_TooMany => ks_is)
    (case li_TooMany => rfl)
    (case kl_TextError => k_is)
    (case rf_TextError => decide +kernel)
    (case sa_TextError => k_is)
    (case ga_TextError => k_is)
    (case gg_TextError => k_is)
    (case no_TextError => k_is)
    (case in_TextError => k_is)
    (case tc_TextError => k_is)
    (case kc_TextError => k_is)
    (case ve_TextError => k_is)
    (case fn_TextError => k_is)
    (case co_TextError => k_is)
    (case cd_TextError => k_is)
    (case v2_TextError => rfl)
    (case fl_TextError => decide +kernel)
    (case ce_TextError => k_is)
    (case cD_TextError => k_is)
    (case mr_TextError => k_is)
    (case su_TextError => ks_is)
    (case li_TextError => rfl)
    (case n2_LogError => k_is)
    (case kl_LogError => k_is)
    (case rf_LogError => decide +kernel)
    (case sa_LogError => k_is)
    (case ga_LogError => k_is)
    (case gg_LogError => k_is)
    (case no_LogError => k_is)
    (case in_LogError => k_is)
    (case tc_LogError => k_is)
    (case kc_LogError => k_is)
    (case ve_LogError => k_is)
    (case fn_LogError => k_is)
    (case co_LogError => k_is)
    (case cd_LogError => k_is)
    (case v2_LogError => rfl)
    (case fl_LogError => decide +kernel)
    (case ce_LogError => k_is)
    (case cD_LogError => k_is)
    (case mr_LogError => k_is)
    (case su_LogError => ks_is)
    (case li_LogError => rfl)
    (case kl_CommandError => k_is)
    (case rf_CommandError => decide +kernel)
    (case sa_CommandError => k_is)
    (case ga_CommandError => k_is)
    (case gg_CommandError => k_is)
    (case no_CommandError => k_is)
    (case in_CommandError => k_is)
    (case tc_CommandError => k_is)
    (case kc_CommandError => k_is)
    (case ve_CommandError => k_is)
    (case fn_CommandError => k_is)
    (case co_CommandError => k_is)
    (case cd_CommandError => k_is)
    (case v2_CommandError => rfl)
    (case fl_CommandError => decide +kernel)
    (case ce_CommandError => k_is)
    (case cD_CommandError => k_is)
    (case mr_CommandError => k_is)
    (case su_CommandError => ks_is)
    (case li_CommandError => rfl)
    (case s_ArgumentError_AwryError => k_is)
    (case s_CheckError_AwryError => k_is)
    (case s_PaperError_AwryError => k_is)
    (case s_TooMany_AwryError => k_is)
    (case s_TextError_AwryError => k_is)
    (case s_LogError_AwryError => k_is)
    (case s_CommandError_AwryError => k_is)
    (case s_ArgumentError_CommandError => k_is)
    (case s_CheckError_CommandError => k_is)
    (case s_PaperError_CommandError => k_is)
    (case s_TooMany_CommandError => k_is)
    (case s_TextError_CommandError => k_is)
    (case s_LogError_CommandError => k_is)
    (case s_CommandError_CommandError => k_is)
    (case s_ArgumentError_LogError => k_is)
    (case s_CheckError_LogError => k_is)
    (case s_PaperError_LogError => k_is)
    (case s_TooMany_LogError => k_is)
    (case s_TextError_LogError => k_is)
    (case s_LogError_LogError => k_is)
    (case s_CommandError_LogError => k_is)
    (case s_ArgumentError_TextError => k_is)
    (case s_CheckError_TextError => k_is)
    (case s_PaperError_TextError => k_is)
    (case s_TooMany_TextError => k_is)
    (case s_TextError_TextError => k_is)
    (case s_LogError_TextError => k_is)
    (case s_CommandError_TextError => k_is)
    (case s_ArgumentError_CheckError => k_is)
    (case s_CheckError_CheckError => k_is)
    (case s_PaperError_CheckError => k_is)
    (case s_TooMany_CheckError => k_is)
    (case s_TextError_CheckError => k_is)
    (case s_LogError_CheckError => k_is)
    (case s_CommandError_CheckError => k_is)
    (case s_ArgumentError_TooMany => k_is)
    (case s_CheckError_TooMany => k_is)
    (case s_PaperError_TooMany => k_is)
    (case s_TooMany_TooMany => k_is)
    (case s_TextError_TooMany => k_is)
    (case s_LogError_TooMany => k_is)
    (case s_CommandError_TooMany => k_is)
    (case s_ArgumentError_PaperError => k_is)
    (case s_CheckError_PaperError => k_is)
    (case s_PaperError_PaperError => k_is)
    (case s_TooMany_PaperError => k_is)
    (case s_TextError_PaperError => k_is)
    (case s_LogError_PaperError => k_is)
    (case s_CommandError_PaperError => k_is)
    (case s_ArgumentError_ArgumentError => k_is)
    (case s_CheckError_ArgumentError => k_is)
    (case s_PaperError_ArgumentError => k_is)
    (case s_TooMany_ArgumentError => k_is)
    (case s_TextError_ArgumentError => k_is)
    (case s_LogError_ArgumentError => k_is)
    (case s_CommandError_ArgumentError => k_is)
    (case nk => k_is)
    (case tk => k_is)
    (case cq_CheckError => k_is)
    (case cx_ArgumentError => k_is)
    (case cs_ArgumentError => k_is)
    (case mo_ArgumentError => k_is)
    (case i_ArgumentError_CheckError => k_is)
    (case e_ArgumentError_CheckError => decide)
    (case cx_CheckError => k_is)
    (case cs_CheckError => k_is)
    (case mo_CheckError => k_is)
    (case i_CheckError_CheckError => k_is)
    (case cx_PaperError => k_is)
    (case cs_PaperError => k_is)
    (case mo_PaperError => k_is)
    (case i_PaperError_CheckError => k_is)
    (case e_PaperError_CheckError => decide)
    (case cx_TooMany => k_is)
    (case cs_TooMany => k_is)
    (case mo_TooMany => k_is)
    (case i_TooMany_CheckError => k_is)
    (case e_TooMany_CheckError => decide)
    (case cx_TextError => k_is)
    (case cs_TextError => k_is)
    (case mo_TextError => k_is)
    (case i_TextError_CheckError => k_is)
    (case e_TextError_CheckError => decide)
    (case cx_LogError => k_is)
    (case cs_LogError => k_is)
    (case mo_LogError => k_is)
    (case i_LogError_CheckError => k_is)
    (case e_LogError_CheckError => decide)
    (case cx_CommandError => k_is)
    (case cs_CommandError => k_is)
    (case mo_CommandError => k_is)
    (case i_CommandError_CheckError => k_is)
    (case e_CommandError_CheckError => decide)
    (case cq_TooMany => k_is)
    (case i_ArgumentError_TooMany => k_is)
    (case e_ArgumentError_TooMany => decide)
    (case i_CheckError_TooMany => k_is)
    (case e_CheckError_TooMany => decide)
    (case i_PaperError_TooMany => k_is)
    (case e_PaperError_TooMany => decide)
    (case i_TooMany_TooMany => k_is)
    (case i_TextError_TooMany => k_is)
    (case e_TextError_TooMany => decide)
    (case i_LogError_TooMany => k_is)
    (case e_LogError_TooMany => decide)
    (case i_CommandError_TooMany => k_is)
    (case e_CommandError_TooMany => decide)
    (case cq_PaperError => k_is)
    (case i_ArgumentError_PaperError => k_is)
    (case e_ArgumentError_PaperError => decide)
    (case i_CheckError_PaperError => k_is)
    (case e_CheckError_PaperError => decide)
    (case i_PaperError_PaperError => k_is)
    (case i_TooMany_PaperError => k_is)
    (case e_TooMany_PaperError => decide)
    (case i_TextError_PaperError => k_is)
    (case e_TextError_PaperError => decide)
    (case i_LogError_PaperError => k_is)
    (case e_LogError_PaperError => decide)
    (case i_CommandError_PaperError => k_is)
    (case e_CommandError_PaperError => decide)
    (case cq_ArgumentError => k_is)
    (case i_ArgumentError_ArgumentError => k_is)
    (case i_CheckError_ArgumentError => k_is)
    (case e_CheckError_ArgumentError => decide)
    (case i_PaperError_ArgumentError => k_is)
    (case e_PaperError_ArgumentError => decide)
    (case i_TooMany_ArgumentError => k_is)
    (case e_TooMany_ArgumentError => decide)
    (case i_TextError_ArgumentError => k_is)
    (case e_TextError_ArgumentError => decide)
    (case i_LogError_ArgumentError => k_is)
    (case e_LogError_ArgumentError => decide)
    (case i_CommandError_ArgumentError => k_is)
    (case e_CommandError_ArgumentError => decide)
    (case cq_CommandError => k_is)
    (case i_ArgumentError_CommandError => k_is)
    (case e_ArgumentError_CommandError => decide)
    (case i_CheckError_CommandError => k_is)
    (case e_CheckError_CommandError => decide)
    (case i_PaperError_CommandError => k_is)
    (case e_PaperError_CommandError => decide)
    (case i_TooMany_CommandError => k_is)
    (case e_TooMany_CommandError => decide)
    (case i_TextError_CommandError => k_is)
    (case e_TextError_CommandError => decide)
    (case i_LogError_CommandError => k_is)
    (case e_LogError_CommandError => decide)
    (case i_CommandError_CommandError => k_is)
    (case cq_LogError => k_is)
    (case i_ArgumentError_LogError => k_is)
    (case e_ArgumentError_LogError => decide)
    (case i_CheckError_LogError => k_is)
    (case e_CheckError_LogError => decide)
    (case i_PaperError_LogError => k_is)
    (case e_PaperError_LogError => decide)
    (case i_TooMany_LogError => k_is)
    (case e_TooMany_LogError => decide)
    (case i_TextError_LogError => k_is)
    (case e_TextError_LogError => decide)
    (case i_LogError_LogError => k_is)
    (case i_CommandError_LogError => k_is)
    (case e_CommandError_LogError => decide)
    (case cq_TextError => k_is)
    (case i_ArgumentError_TextError => k_is)
    (case e_ArgumentError_TextError => decide)
    (case i_CheckError_TextError => k_is)
    (case e_CheckError_TextError => decide)
    (case i_PaperError_TextError => k_is)
    (case e_PaperError_TextError => decide)
    (case i_TooMany_TextError => k_is)
    (case e_TooMany_TextError => decide)
    (case i_TextError_TextError => k_is)
    (case i_LogError_TextError => k_is)
    (case e_LogError_TextError => decide)
    (case i_CommandError_TextError => k_is)
    (case e_CommandError_TextError => decide)
    (case i_ArgumentError_ValueError => k_is)
    (case i_CheckError_ValueError => k_is)
    (case i_PaperError_ValueError => k_is)
    (case i_TooMany_ValueError => k_is)
    (case i_TextError_ValueError => k_is)
    (case i_LogError_ValueError => k_is)
    (case i_CommandError_ValueError => k_is)

